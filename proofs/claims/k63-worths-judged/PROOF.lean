import PyProof.Rows.All
import Wide.All
import OpenK.AllK
import Wide.FinOn
import HandS.ForMost
import HandS.ForExc
import HandS.EndBits
import HandS.MakeKwOnly
import HandS.Property
import HandS.Style
import HandS.StrMore
import HandS.IsInst
import HandS.Flow
import HandS.Small
import HandS.RaiseMore
import HandS.NoneIn
import HandS.DictTup
import HandS.CallSlots
import HandS.ExcSuper
import HandS.Codes
import HandS.Walk
import HandS.Replace
import HandS.TupAny
import HandS.Zip
import KE.SortData
import KE.GoesEnum
import KE.DataMinMax
import PyProof.Rows.SortWalk
import HandS.Lambda
import HandS.ExcInit
import HandS.ExcOwn
import HandS.TryMany
import HandS.ExcField
import KE.KExcSuper
import KE.KExcIs
import HandS.MakeKw
import HandS.More
import HandS.ExcValue
import HandS.SetFor
import HandS.SetKeys
import PyProof.Rows.SortStr
import HandS.Head0
import HandS.Head1
import HandS.Head2
import HandS.HeadEnd
import HandS.HeadHook1
import PySem.Challenge.RW_meantword_k63_worths_judged
set_option Elab.async false
set_option linter.all false
set_option maxRecDepth 100000
set_option maxHeartbeats 4000000
namespace G69
open PySem PySem.Spec PyProof.Rows L2
/-! ### what the top has written, read off the end of one run: selectors, checks, the Hook -/
section
variable (K : PySem.W.Frag)
def ocA (a : Addr) : Value := match K.lookup a with | some o => o.cls | none => .none
def odA (a : Addr) : Option Addr := match K.lookup a with | some o => o.dict | none => none
def slA (a : Addr) : Array (Option Value) := match K.lookup a with | some o => o.slots | none => #[]
def fdA (a : Addr) : Option FuncData := match K.lookup a with | some ⟨_, _, .func fd, _⟩ => some fd | _ => none
def dfA (a : Addr) : Value := match fdA K a with | some fd => fd.defaults | none => .none
def kwA (a : Addr) : Value := match fdA K a with | some fd => fd.kwdefaults | none => .none
def docA (a : Addr) : Value := match fdA K a with | some fd => fd.doc | none => .none
def pmA (a : Addr) : Value := match fdA K a with | some fd => fd.pyModule | none => .none
def anA (a : Addr) : Option Addr := match fdA K a with | some fd => fd.annotations | none => none
def cdA (a : Addr) : Value := match fdA K a with | some fd => fd.code | none => .none
def ctA (a : Addr) : Value := match fdA K a with | some fd => fd.closureTuple | none => .none
def closA (a : Addr) : Addr := match fdA K a with | some fd => (match fd.closure with | [(_, c)] => c | _ => 0) | none => 0
def refA : Value → Addr | .ref a => a | _ => 0
def fieldsA (a : Addr) : Array Value := match K.lookup a with | some ⟨_, _, .fields vs, _⟩ => vs | _ => #[]
def seqEp (a : Addr) : Nat := match K.lookup a with | some ⟨_, _, .seq _ n, _⟩ => n | _ => 0
def strA : Option Value → Str | some (.str x _) => x | _ => Str.empty
def tokA : Option Value → Tok | some (.str _ t) => t | some (.int _ t) => t | _ => default
def nsA (D : Addr) (x : Str) : Option Value := match PySem.W.nsIn K D x with | some (some v) => some v | _ => none
def glA (x : Str) : Addr := match nsA K mainGlobals x with | some (.ref a) => a | _ => 0
def meA (C : Addr) (m : Str) : Addr := match PySem.W.findIn K (.ref C) m with | some (some (.ref a)) => a | _ => 0
def prL (q : Addr) : List Value := match PySem.W.recIn K q "property" with | some (_ :: r) => r | _ => []
def prA (q : Addr) : Addr := match PySem.W.recIn K q "property" with | some (.ref f :: _) => f | _ => 0
abbrev FnW : Type := Option (Str × Str × Arguments × FuncBody × Scope × Addr × List Str × Addr)
def fnW (a : Addr) : FnW := match fdA K a with | some fd => some (fd.name, fd.qualname, fd.params, fd.body, fd.scope, fd.globals, fd.closure.map (·.1), fd.builtins) | none => none
def isSeqN (a : Addr) : Bool := match K.lookup a with | some ⟨_, _, .seq its _, _⟩ => (match its with | ⟨[.none]⟩ => true | _ => false) | _ => false
def isFieldsB (a : Addr) : Bool := match K.lookup a with | some ⟨_, _, .fields _, _⟩ => true | _ => false
def isCellB (a C : Addr) : Bool := match K.lookup a with | some ⟨_, _, .cell (some (.ref c)), _⟩ => c == C | _ => false
def clD (a : Addr) : ClassData := match K.lookup a with | some ⟨_, _, .cls cd, _⟩ => cd | _ => default
def slotA (a : Addr) (i : Nat) : Option Value := (slA K a).toList.getD i none
def isExcB (C : Addr) : Bool := match K.lookup C with
  | some ⟨.type t, _, .cls cd, sl⟩ => t == "type" && ((match cd.mro with | .ref c :: _ => c == C | _ => false) && (cd.hasDict && (!cd.hasDel && (match sl.toList with | [_, _, _, _, some (.builtin n), _] => n == "ValueError.__new__" | _ => false))))
  | _ => false
def refV1 : Option Value → Addr | some (.ref a) => a | _ => 0
def noAt (a : Addr) : Bool := match K.lookup a with | none => true | _ => false
end
section
variable {K : PySem.W.Frag}
theorem fdA_some {a : Addr} {fd : FuncData} (h : fdA K a = some fd) : K.lookup a = some ⟨ocA K a, odA K a, .func fd, slA K a⟩ := by
  unfold fdA at h
  split at h
  · rename_i c d f s e
    cases h
    unfold ocA odA slA
    rw [e]
  · cases h
theorem fn_isC {a : Addr} {n q : Str} {p : Arguments} {b : List Stmt} {sc : Scope} {xs : List Str} (e : fnW K a = some (n, q, p, .stmts b, sc, mainGlobals, xs, builtinsNs)) :
    ∃ fd, fdA K a = some fd ∧ fd = { name := n, qualname := q, params := p, body := .stmts b, scope := sc, globals := mainGlobals, closure := fd.closure, defaults := dfA K a, kwdefaults := kwA K a, doc := docA K a, pyModule := pmA K a, annotations := anA K a, code := cdA K a, closureTuple := ctA K a, builtins := builtinsNs } ∧ fd.closure.map (·.1) = xs := by
  unfold fnW at e
  split at e
  · rename_i fd h
    refine ⟨fd, h, ?_, ?_⟩
    · unfold dfA kwA docA pmA anA cdA ctA
      rw [h]
      obtain ⟨n1, n2, n3, n4, n5, n6, n7, n8, n9, n10, n11, n12, n13, n14, n15⟩ := fd
      simp only [Option.some.injEq, Prod.mk.injEq] at e
      obtain ⟨h1, h2, h3, h4, h5, h6, h7, h8⟩ := e
      subst h1 h2 h3 h4 h5 h6 h8
      rfl
    · simp only [Option.some.injEq, Prod.mk.injEq] at e
      exact e.2.2.2.2.2.2.1
  · cases e
theorem fn_isO {a : Addr} {n q : Str} {p : Arguments} {b : List Stmt} {sc : Scope} {dV : Value} (e : fnW K a = some (n, q, p, .stmts b, sc, mainGlobals, [], builtinsNs)) (hd : dfA K a = dV) :
    K.lookup a = some ⟨ocA K a, odA K a, .func (PySem.W.fnOf n q p b sc dV (kwA K a) (docA K a) (pmA K a) (anA K a) (cdA K a) (ctA K a)), slA K a⟩ := by
  obtain ⟨fd, h, h2, h3⟩ := fn_isC e
  have h4 := fdA_some h
  have e0 : fd.closure = [] := List.map_eq_nil_iff.mp h3
  rw [e0, hd] at h2
  rw [h4, h2]
theorem fn_isK {a : Addr} {n q : Str} {p : Arguments} {b : List Stmt} {sc : Scope} {dV : Value} (e : fnW K a = some (n, q, p, .stmts b, sc, mainGlobals, [("__class__" : Str)], builtinsNs)) (hd : dfA K a = dV) :
    K.lookup a = some ⟨ocA K a, odA K a, .func (PySem.W.ksFn n q p b sc dV (kwA K a) (docA K a) (pmA K a) (anA K a) (cdA K a) (ctA K a) (closA K a)), slA K a⟩ := by
  obtain ⟨fd, h, h2, h3⟩ := fn_isC e
  have h4 := fdA_some h
  have e0 : fd.closure = [(("__class__" : Str), closA K a)] := by
    have e1 : closA K a = (match fd.closure with | [(_, c)] => c | _ => 0) := by
      unfold closA
      rw [h]
    cases hc : fd.closure with
    | nil => rw [hc] at h3; cases h3
    | cons p r =>
      rw [hc] at h3
      simp only [List.map_cons, List.cons.injEq, List.map_eq_nil_iff] at h3
      obtain ⟨h5, h6⟩ := h3
      subst h6
      obtain ⟨p1, p2⟩ := p
      have h7 : p1 = ("__class__" : Str) := h5
      rw [e1, hc, h7]
  rw [e0, hd] at h2
  rw [h4, h2]
theorem fn_isKc {a c : Addr} {n q : Str} {p : Arguments} {b : List Stmt} {sc : Scope} {dV : Value} (e : fnW K a = some (n, q, p, .stmts b, sc, mainGlobals, [("__class__" : Str)], builtinsNs)) (hd : dfA K a = dV) (hc : cdA K a = .ref c) :
    K.lookup a = some ⟨ocA K a, odA K a, .func (PySem.W.ksFn n q p b sc dV (kwA K a) (docA K a) (pmA K a) (anA K a) (.ref c) (ctA K a) (closA K a)), slA K a⟩ := by
  rw [← hc]
  exact fn_isK e hd
theorem seq_is {a : Addr} (h : isSeqN K a = true) : K.lookup a = some ⟨ocA K a, odA K a, .seq #[.none] (seqEp K a), slA K a⟩ := by
  unfold isSeqN at h
  split at h
  · rename_i c d its n s e
    unfold ocA odA slA seqEp
    rw [e]
    split at h
    · rfl
    · cases h
  · cases h
theorem fields_is {a : Addr} (h : isFieldsB K a = true) : K.lookup a = some ⟨ocA K a, odA K a, .fields (fieldsA K a), slA K a⟩ := by
  unfold isFieldsB at h
  split at h
  · rename_i c d vs s e
    unfold ocA odA slA fieldsA
    rw [e]
  · cases h
theorem cell_is {a C : Addr} (h : isCellB K a C = true) : K.lookup a = some ⟨ocA K a, odA K a, .cell (some (.ref C)), slA K a⟩ := by
  unfold isCellB at h
  split at h
  · rename_i c d x s e
    unfold ocA odA slA
    rw [e, beq_iff_eq.mp h]
  · cases h
theorem no_is {a : Addr} (h : noAt K a = true) : K.lookup a = none := by
  unfold noAt at h
  split at h
  · assumption
  · cases h
end
theorem exc_is {K : PySem.W.Frag} {C : Addr} (h : isExcB K C = true) : K.lookup C = some (excClassObj (clD K C).name (clD K C).qualname C (clD K C).ns (clD K C).bases ((clD K C).mro.drop 1) true (clD K C).slotNames (clD K C).subclasses (clD K C).abstract (clD K C).collection (odA K C) (slotA K C 0) (slotA K C 1) (slotA K C 2) (slotA K C 3) (slotA K C 5) "ValueError.__new__") := by
  unfold isExcB at h
  split at h
  · rename_i t d cd sl e
    obtain ⟨h1, h⟩ := He.ba h
    obtain ⟨h2, h⟩ := He.ba h
    obtain ⟨h3, h⟩ := He.ba h
    obtain ⟨h4, h5⟩ := He.ba h
    unfold clD odA slotA slA
    rw [e]
    dsimp only
    have e1 : t = "type" := eq_of_beq h1
    split at h2
    · rename_i c r em
      have e2 : c = C := eq_of_beq h2
      split at h5
      · rename_i k0 k1 k2 k3 n k5 es
        have e5 : n = "ValueError.__new__" := eq_of_beq h5
        obtain ⟨a1, a2, a3, a4, a5, a6, a7, a8, a9, a10, a11⟩ := cd
        dsimp only at em h3 h4 ⊢
        have e4 : a11 = false := by cases a11 with | false => rfl | true => cases h4
        have esl : sl = ⟨[k0, k1, k2, k3, some (.builtin n), k5]⟩ := by
          cases sl
          exact congrArg Array.mk es
        subst e1 e2 e4 h3 em esl e5
        rfl
      · cases h5
    · cases h2
  · cases h
/-- the objects that a value, an object names -/
def refsV : Value → List Addr
  | .ref a => [a]
  | _ => []
def refsB (o : Obj) : List Addr := match o.data with
  | .seq its _ => its.toList.flatMap refsV
  | .dict es _ => es.toList.flatMap fun e => refsV e.val
  | .func fd => refsV fd.code ++ (refsV fd.defaults ++ (refsV fd.kwdefaults ++ fd.closure.map (·.2)))
  | .cls cd => cd.ns :: cd.mro.flatMap refsV
  | .cell (some v) => refsV v
  | .fields vs => (match o.cls with | .type n => (match n == "property" with | true => vs.toList.flatMap refsV | false => []) | _ => [])
  | _ => []
/-- the new ones -/
def newA : List Addr → List Addr → List Addr → List Addr
  | [], _, acc => acc
  | a :: r, seen, acc => match seen.elem a || acc.elem a with
    | true => newA r seen acc
    | false => newA r seen (a :: acc)
def frNatL {α : Type} : List Nat → (List Nat → α) → α
  | [], k => k []
  | a :: r, k => HandSHeadRun.frNat a fun a => frNatL r fun r => k (a :: r)
theorem frNatL_eq {α : Type} : ∀ (l : List Nat) (k : List Nat → α), frNatL l k = k l
  | [], _ => rfl
  | a :: r, k => by
    unfold frNatL
    rw [HandSHeadRun.frNat_eq, frNatL_eq r]
def bfsA {α : Type} (g : Addr → Option Obj) : Nat → List Addr → List Addr → (List Addr → α) → α
  | 0, seen, _, k => k seen
  | n + 1, seen, fr, k => frNatL (newA (fr.flatMap fun a => match g a with | some o => refsB o | none => []) seen []) fun nw => frNatL (nw ++ seen) fun s2 => bfsA g n s2 nw k
def frObj {α : Type} (g : Addr → Option Obj) : List Addr → (PySem.W.Frag → α) → α
  | [], k => k []
  | a :: r, k => match g a with
    | some o => frObj g r fun K => k ((a, o) :: K)
    | none => frObj g r k
theorem frObj_eq {α : Type} {g : Addr → Option Obj} : ∀ (l : List Addr) (k : PySem.W.Frag → α), frObj g l k = k (He.frG g l)
  | [], _ => rfl
  | a :: r, k => by
    unfold frObj He.frG
    rw [List.filterMap_cons]
    cases g a with
    | none => exact frObj_eq r k
    | some o => exact frObj_eq r _
theorem bfsA_eq {α : Type} {g : Addr → Option Obj} : ∀ (n : Nat) (seen fr : List Addr) (k : List Addr → α), ∃ l, bfsA g n seen fr k = k l
  | 0, seen, _, _ => ⟨seen, rfl⟩
  | n + 1, seen, fr, k => by
    unfold bfsA
    rw [frNatL_eq, frNatL_eq]
    exact bfsA_eq n _ _ k
abbrev AlK : Type := Bool × List FnW
def obsT (chk : PySem.W.Frag → Bool) (fn : List (PySem.W.Frag → Addr)) (g : Addr → Option Obj) : AlK :=
  bfsA g 5 [mainGlobals, cStatics] [mainGlobals] fun as => frObj g as fun K => (chk K, fn.map fun f => fnW K (f K))
def SaysK (chk : PySem.W.Frag → Bool) (fn : List (PySem.W.Frag → Addr)) (vals : List FnW) (K : PySem.W.Frag) : Prop := ((chk K, fn.map fun f => fnW K (f K)) : AlK) = (true, vals)
def hookT (chk : PySem.W.Frag → Bool) (fn : List (PySem.W.Frag → Addr)) (vals : List FnW) : PySem.W.Hook where
  α := AlK
  obs := fun s => obsT chk fn s.heap.get?
  val := fun _ => (true, vals)
  says := fun _ h => ∃ K : PySem.W.Frag, K.In h ∧ SaysK chk fn vals K
  of := fun _ s e => by
    unfold obsT at e
    obtain ⟨l, hl⟩ := bfsA_eq (g := s.heap.get?) 5 [mainGlobals, cStatics] [mainGlobals] fun as => frObj s.heap.get? as fun K => ((chk K, fn.map fun f => fnW K (f K)) : AlK)
    rw [hl, frObj_eq] at e
    exact ⟨_, He.frG_in, e⟩
  keeps := fun _ _ _ ⟨K, hK, c⟩ k => ⟨K, PySem.W.Frag.In.keeps hK k, c⟩
theorem obsT_eq {chk : PySem.W.Frag → Bool} {fn : List (PySem.W.Frag → Addr)} {vals : List FnW} (s : PySem.W.SharedT) : obsT chk fn (HandSHeadRun.getT s) = (hookT chk fn vals).obs s.abs := by
  have e : HandSHeadRun.getT s = s.abs.heap.get? := funext fun a => HandSHeadRun.getT_eq s a
  rw [e]
  rfl
section
variable {chk : PySem.W.Frag → Bool} {fn : List (PySem.W.Frag → Addr)} {vals : List FnW} {K : PySem.W.Frag}
theorem SaysK.chk_ (c : SaysK chk fn vals K) : chk K = true := congrArg (fun z : AlK => z.1) c
theorem SaysK.fn_ (c : SaysK chk fn vals K) (i : Nat) {f : PySem.W.Frag → Addr} {v : FnW} (h : fn[i]? = some f) (h2 : vals[i]? = some v) : fnW K (f K) = v := by
  have e : (fn.map fun f => fnW K (f K)) = vals := congrArg (fun z : AlK => z.2) c
  have e2 : (fn.map fun f => fnW K (f K))[i]? = vals[i]? := by rw [e]
  rw [List.getElem?_map, h, h2] at e2
  exact Option.some.inj e2
end
end G69
namespace G69
open PySem PySem.Spec PyProof.Rows L2
/-! ### one run of the top, its end looked at -/
def zTop (i : Nat) : Stmt := PySem.Challenge.pw_meantword_k63_worths_judged.main.body.getD i (.Pass ⟨0, 0, 0, 0⟩)
abbrev zRow : PySem.W.OpenRow := PySem.W.OpenLaw.row PySem.Challenge.rw_meantword_k63_worths_judged
abbrev zView : Program := PySem.W.view zRow.prog [29]
def zLoose0 : List Str := ["SpellError", "BadText", "BadMachine", "BadNumber", "LETTERS", "LONGEST", "is_integer", "is_text", "is_word", "need_text", "MOST_ROWS", "is_machine_row", "Machine", "goals_of", "edges_of", "shows_rate", "_law_begin", "_law_take", "_law_pick", "_law_caught", "_law_machine_rows", "_law_due", "_law_worths", "_law_bent"]
def zLoose : List Str := zLoose0
def zCkP0 (K : PySem.W.Frag) : Prop := (PySem.W.nsIn K mainGlobals "abs" = some none) ∧ (PySem.W.nsIn K mainGlobals "all" = some none) ∧ (PySem.W.nsIn K mainGlobals "any" = some none) ∧ (PySem.W.nsIn K mainGlobals "bool" = some none) ∧ (PySem.W.nsIn K mainGlobals "dict" = some none) ∧ (PySem.W.nsIn K mainGlobals "divmod" = some none) ∧ (PySem.W.nsIn K mainGlobals "enumerate" = some none) ∧ (PySem.W.nsIn K mainGlobals "int" = some none) ∧ (PySem.W.nsIn K mainGlobals "isinstance" = some none) ∧ (PySem.W.nsIn K mainGlobals "len" = some none) ∧ (PySem.W.nsIn K mainGlobals "list" = some none) ∧ (PySem.W.nsIn K mainGlobals "max" = some none) ∧ (PySem.W.nsIn K mainGlobals "min" = some none) ∧ (PySem.W.nsIn K mainGlobals "range" = some none) ∧ (PySem.W.nsIn K mainGlobals "repr" = some none) ∧ (PySem.W.nsIn K mainGlobals "set" = some none)
instance zCkD0 (K : PySem.W.Frag) : Decidable (zCkP0 K) := by unfold zCkP0; infer_instance
def zCkP1 (K : PySem.W.Frag) : Prop := (PySem.W.nsIn K mainGlobals "sorted" = some none) ∧ (PySem.W.nsIn K mainGlobals "str" = some none) ∧ (PySem.W.nsIn K mainGlobals "sum" = some none) ∧ (PySem.W.nsIn K mainGlobals "tuple" = some none) ∧ (PySem.W.nsIn K mainGlobals "zip" = some none) ∧ (PySem.W.nsIn K mainGlobals "LETTERS" = some (some (.str "abcdefghijklmnopqrstuvwxyz" (tokA (nsA K mainGlobals "LETTERS"))))) ∧ (PySem.W.nsIn K mainGlobals "LONGEST" = some (some (.int 5 (tokA (nsA K mainGlobals "LONGEST"))))) ∧ (PySem.W.nsIn K mainGlobals "MOST_ROWS" = some (some (.int 20000 (tokA (nsA K mainGlobals "MOST_ROWS"))))) ∧ (PySem.W.nsIn K mainGlobals "is_integer" = some (some (.ref (glA K "is_integer")))) ∧ (dfA K (glA K "is_integer") = .none) ∧ (PySem.W.codeIn K (cdA K (glA K "is_integer")) "is_integer" = true) ∧ (PySem.W.keepIn K (.ref (glA K "is_integer")) = true) ∧ (PySem.W.nsIn K mainGlobals "is_text" = some (some (.ref (glA K "is_text")))) ∧ (dfA K (glA K "is_text") = .none) ∧ (PySem.W.codeIn K (cdA K (glA K "is_text")) "is_text" = true) ∧ (PySem.W.keepIn K (.ref (glA K "is_text")) = true)
instance zCkD1 (K : PySem.W.Frag) : Decidable (zCkP1 K) := by unfold zCkP1; infer_instance
def zCkP2 (K : PySem.W.Frag) : Prop := (PySem.W.nsIn K mainGlobals "is_word" = some (some (.ref (glA K "is_word")))) ∧ (dfA K (glA K "is_word") = .none) ∧ (PySem.W.codeIn K (cdA K (glA K "is_word")) "is_word" = true) ∧ (PySem.W.keepIn K (.ref (glA K "is_word")) = true) ∧ (PySem.W.nsIn K mainGlobals "is_machine_row" = some (some (.ref (glA K "is_machine_row")))) ∧ (dfA K (glA K "is_machine_row") = .none) ∧ (PySem.W.codeIn K (cdA K (glA K "is_machine_row")) "is_machine_row" = true) ∧ (PySem.W.keepIn K (.ref (glA K "is_machine_row")) = true) ∧ (PySem.W.nsIn K mainGlobals "Machine" = some (some (.ref (glA K "Machine")))) ∧ (PySem.W.plainGet K (glA K "Machine") Str.empty = true) ∧ (PySem.W.hasDictIn K (glA K "Machine") = true) ∧ (PySem.W.plainOver K (glA K "Machine") = true) ∧ (PySem.W.findIn K (.ref (glA K "Machine")) "__setattr__" = some (some (.builtin "object.__setattr__"))) ∧ (PySem.W.findIn K (.ref (glA K "Machine")) "m_rows" = some none) ∧ (PySem.W.findIn K (.ref (glA K "Machine")) "__init__" = some (some (.ref (meA K (glA K "Machine") "__init__")))) ∧ (dfA K (meA K (glA K "Machine") "__init__") = .none)
instance zCkD2 (K : PySem.W.Frag) : Decidable (zCkP2 K) := by unfold zCkP2; infer_instance
def zCkP3 (K : PySem.W.Frag) : Prop := (PySem.W.codeIn K (cdA K (meA K (glA K "Machine") "__init__")) "Machine.__init__" = true) ∧ (PySem.W.keepIn K (.ref (meA K (glA K "Machine") "__init__")) = true) ∧ (PySem.W.isFn K (.ref (meA K (glA K "Machine") "__init__")) = true) ∧ (PySem.W.makesIn K (glA K "Machine") = true) ∧ (PySem.W.keepIn K (.ref (glA K "Machine")) = true) ∧ (PySem.W.findIn K (.ref (glA K "Machine")) "rows" = some (some (.ref (meA K (glA K "Machine") "rows")))) ∧ (PySem.W.specialIn K (.ref (meA K (glA K "Machine") "rows")) "__get__" = some (some (.builtin "property.__get__"))) ∧ (PySem.W.takesIn K (.ref (meA K (glA K "Machine") "rows")) = some true) ∧ (PySem.W.recIn K (meA K (glA K "Machine") "rows") "property" = some (.ref (prA K (meA K (glA K "Machine") "rows")) :: (prL K (meA K (glA K "Machine") "rows")))) ∧ (dfA K (prA K (meA K (glA K "Machine") "rows")) = .none) ∧ (PySem.W.codeIn K (cdA K (prA K (meA K (glA K "Machine") "rows"))) "Machine.rows" = true) ∧ (PySem.W.keepIn K (.ref (prA K (meA K (glA K "Machine") "rows"))) = true) ∧ (PySem.W.findIn K (.ref (glA K "Machine")) "__len__" = some (some (.ref (meA K (glA K "Machine") "__len__")))) ∧ (dfA K (meA K (glA K "Machine") "__len__") = .none) ∧ (PySem.W.codeIn K (cdA K (meA K (glA K "Machine") "__len__")) "Machine.__len__" = true) ∧ (PySem.W.keepIn K (.ref (meA K (glA K "Machine") "__len__")) = true)
instance zCkD3 (K : PySem.W.Frag) : Decidable (zCkP3 K) := by unfold zCkP3; infer_instance
def zCkP4 (K : PySem.W.Frag) : Prop := (PySem.W.isFn K (.ref (meA K (glA K "Machine") "__len__")) = true) ∧ (PySem.W.fnIn K (meA K (glA K "Machine") "__len__") = true) ∧ (PySem.W.nsIn K mainGlobals "goals_of" = some (some (.ref (glA K "goals_of")))) ∧ (dfA K (glA K "goals_of") = .none) ∧ (PySem.W.codeIn K (cdA K (glA K "goals_of")) "goals_of" = true) ∧ (PySem.W.keepIn K (.ref (glA K "goals_of")) = true) ∧ (PySem.W.nsIn K mainGlobals "edges_of" = some (some (.ref (glA K "edges_of")))) ∧ (dfA K (glA K "edges_of") = .none) ∧ (PySem.W.codeIn K (cdA K (glA K "edges_of")) "edges_of" = true) ∧ (PySem.W.keepIn K (.ref (glA K "edges_of")) = true) ∧ (PySem.W.nsIn K mainGlobals "shows_rate" = some (some (.ref (glA K "shows_rate")))) ∧ (dfA K (glA K "shows_rate") = .none) ∧ (PySem.W.codeIn K (cdA K (glA K "shows_rate")) "shows_rate" = true) ∧ (PySem.W.keepIn K (.ref (glA K "shows_rate")) = true) ∧ (PySem.W.nsIn K mainGlobals "_law_pick" = some (some (.ref (glA K "_law_pick")))) ∧ (dfA K (glA K "_law_pick") = .none)
instance zCkD4 (K : PySem.W.Frag) : Decidable (zCkP4 K) := by unfold zCkP4; infer_instance
def zCkP5 (K : PySem.W.Frag) : Prop := (PySem.W.codeIn K (cdA K (glA K "_law_pick")) "_law_pick" = true) ∧ (PySem.W.keepIn K (.ref (glA K "_law_pick")) = true) ∧ (PySem.W.nsIn K mainGlobals "_law_caught" = some (some (.ref (glA K "_law_caught")))) ∧ (dfA K (glA K "_law_caught") = .none) ∧ (PySem.W.codeIn K (cdA K (glA K "_law_caught")) "_law_caught" = true) ∧ (PySem.W.keepIn K (.ref (glA K "_law_caught")) = true) ∧ (PySem.W.nsIn K mainGlobals "_law_machine_rows" = some (some (.ref (glA K "_law_machine_rows")))) ∧ (dfA K (glA K "_law_machine_rows") = .none) ∧ (PySem.W.codeIn K (cdA K (glA K "_law_machine_rows")) "_law_machine_rows" = true) ∧ (PySem.W.keepIn K (.ref (glA K "_law_machine_rows")) = true) ∧ (PySem.W.nsIn K mainGlobals "_law_due" = some (some (.ref (glA K "_law_due")))) ∧ (dfA K (glA K "_law_due") = .none) ∧ (PySem.W.codeIn K (cdA K (glA K "_law_due")) "_law_due" = true) ∧ (PySem.W.keepIn K (.ref (glA K "_law_due")) = true) ∧ (PySem.W.nsIn K mainGlobals "_law_worths" = some (some (.ref (glA K "_law_worths")))) ∧ (dfA K (glA K "_law_worths") = .none)
instance zCkD5 (K : PySem.W.Frag) : Decidable (zCkP5 K) := by unfold zCkP5; infer_instance
def zCkP6 (K : PySem.W.Frag) : Prop := (PySem.W.codeIn K (cdA K (glA K "_law_worths")) "_law_worths" = true) ∧ (PySem.W.keepIn K (.ref (glA K "_law_worths")) = true) ∧ (PySem.W.nsIn K mainGlobals "_law_bent" = some (some (.ref (glA K "_law_bent")))) ∧ (dfA K (glA K "_law_bent") = .none) ∧ (PySem.W.codeIn K (cdA K (glA K "_law_bent")) "_law_bent" = true) ∧ (PySem.W.keepIn K (.ref (glA K "_law_bent")) = true) ∧ (PySem.W.findIn K (.ref (glA K "Machine")) "__class__" = some (some (.builtin "object.__class__"))) ∧ (PySem.W.specialIn K (.builtin "object.__class__") "__get__" = some (some (.builtin "getset_descriptor.__get__"))) ∧ (PySem.W.takesIn K (.builtin "object.__class__") = some true) ∧ (PySem.W.mroIn K (glA K "Machine") (.type "object") = some true) ∧ (PySem.W.findIn K (.ref (glA K "Machine")) "__ne__" = some (some (.builtin "object.__ne__"))) ∧ (PySem.W.typeIn K (.ref (glA K "Machine")) = some (.type "type")) ∧ (PySem.W.subIn K (.type "NoneType") (.ref (glA K "Machine")) = some false) ∧ (PySem.W.subIn K (.type "bool") (.ref (glA K "Machine")) = some false) ∧ (PySem.W.subIn K (.type "int") (.ref (glA K "Machine")) = some false) ∧ (PySem.W.subIn K (.type "str") (.ref (glA K "Machine")) = some false)
instance zCkD6 (K : PySem.W.Frag) : Decidable (zCkP6 K) := by unfold zCkP6; infer_instance
def zCkP7 (K : PySem.W.Frag) : Prop := (PySem.W.subIn K (.type "list") (.ref (glA K "Machine")) = some false) ∧ (PySem.W.subIn K (.type "tuple") (.ref (glA K "Machine")) = some false) ∧ (PySem.W.subIn K (.type "dict") (.ref (glA K "Machine")) = some false) ∧ (PySem.W.nsIn K mainGlobals "SpellError" = some (some (.ref (glA K "SpellError")))) ∧ (PySem.W.subIn K (.ref (glA K "SpellError")) (.type "BaseException") = some true) ∧ (PySem.W.typeIn K (.ref (glA K "SpellError")) = some (.type "type")) ∧ (PySem.W.keepIn K (.ref (glA K "SpellError")) = true) ∧ (PySem.W.excIn K (glA K "SpellError") [.type "ValueError", .type "Exception", .type "BaseException", .type "object"] "ValueError.__new__" = true) ∧ (PySem.W.nsIn K mainGlobals "BadText" = some (some (.ref (glA K "BadText")))) ∧ (PySem.W.subIn K (.ref (glA K "BadText")) (.type "BaseException") = some true) ∧ (PySem.W.typeIn K (.ref (glA K "BadText")) = some (.type "type")) ∧ (PySem.W.keepIn K (.ref (glA K "BadText")) = true) ∧ (PySem.W.excIn K (glA K "BadText") [.type "ValueError", .type "Exception", .type "BaseException", .type "object"] "ValueError.__new__" = true) ∧ (PySem.W.nsIn K mainGlobals "BadMachine" = some (some (.ref (glA K "BadMachine")))) ∧ (PySem.W.subIn K (.ref (glA K "BadMachine")) (.type "BaseException") = some true) ∧ (PySem.W.typeIn K (.ref (glA K "BadMachine")) = some (.type "type"))
instance zCkD7 (K : PySem.W.Frag) : Decidable (zCkP7 K) := by unfold zCkP7; infer_instance
def zCkP8 (K : PySem.W.Frag) : Prop := (PySem.W.keepIn K (.ref (glA K "BadMachine")) = true) ∧ (isExcB K (glA K "BadMachine") = true) ∧ (PySem.HandSPX.refsVE ((clD K (glA K "BadMachine")).mro.drop 1) = true) ∧ (PySem.W.findIn K (.ref (glA K "BadMachine")) "__setattr__" = some (some (.builtin "object.__setattr__"))) ∧ (PySem.W.findIn K (.ref (glA K "BadMachine")) "__getattribute__" = some (some (.builtin "BaseException.__getattribute__"))) ∧ (PySem.W.findIn K (.ref (glA K "BadMachine")) "__getattr__" = some none) ∧ (PySem.W.hasDictIn K (glA K "BadMachine") = true) ∧ (PySem.W.findIn K (.ref (glA K "BadMachine")) "row" = some none) ∧ (PySem.W.findIn K (.ref (glA K "BadMachine")) "__init__" = some (some (.ref (meA K (glA K "BadMachine") "__init__")))) ∧ (PySem.W.typeIn K (.ref (meA K (glA K "BadMachine") "__init__")) = some (.type "function")) ∧ (dfA K (meA K (glA K "BadMachine") "__init__") = .none) ∧ (cdA K (meA K (glA K "BadMachine") "__init__") = .ref (refA (cdA K (meA K (glA K "BadMachine") "__init__")))) ∧ (PySem.W.codeIn K (.ref (refA (cdA K (meA K (glA K "BadMachine") "__init__")))) "BadMachine.__init__" = true) ∧ (isFieldsB K (refA (cdA K (meA K (glA K "BadMachine") "__init__"))) = true) ∧ ((fieldsA K (refA (cdA K (meA K (glA K "BadMachine") "__init__"))))[2]? = some (.str (strA (fieldsA K (refA (cdA K (meA K (glA K "BadMachine") "__init__"))))[2]?) (tokA (fieldsA K (refA (cdA K (meA K (glA K "BadMachine") "__init__"))))[2]?))) ∧ (((PySem.Challenge.rw_meantword_k63_worths_judged.prog.main.file : Str) == (strA (fieldsA K (refA (cdA K (meA K (glA K "BadMachine") "__init__"))))[2]?)) = true)
instance zCkD8 (K : PySem.W.Frag) : Decidable (zCkP8 K) := by unfold zCkP8; infer_instance
def zCkP9 (K : PySem.W.Frag) : Prop := (isCellB K (closA K (meA K (glA K "BadMachine") "__init__")) (glA K "BadMachine") = true) ∧ (PySem.W.ks_superIn K (glA K "BadMachine") (glA K "BadMachine") "__init__" = some (some (.builtin "ValueError.__init__"))) ∧ (PySem.W.mroIn K (glA K "BadMachine") (.ref (glA K "BadMachine")) = some true) ∧ (PySem.W.subIn K (.ref (glA K "BadMachine")) (.type "ValueError") = some true) ∧ (PySem.W.nsIn K mainGlobals "super" = some none) ∧ ((PySem.Challenge.rw_meantword_k63_worths_judged.prog.main.scope.names.lookup ("super" : Str)).isSome = false) ∧ (PySem.W.nsIn K PySem.cStatics "thirdparty.any" = some none) ∧ (PySem.W.nsIn K mainGlobals "BadNumber" = some (some (.ref (glA K "BadNumber")))) ∧ (PySem.W.subIn K (.ref (glA K "BadNumber")) (.type "BaseException") = some true) ∧ (PySem.W.typeIn K (.ref (glA K "BadNumber")) = some (.type "type")) ∧ (PySem.W.keepIn K (.ref (glA K "BadNumber")) = true) ∧ (PySem.W.excIn K (glA K "BadNumber") [.type "ValueError", .type "Exception", .type "BaseException", .type "object"] "ValueError.__new__" = true) ∧ (PySem.W.hasDictIn K (glA K "SpellError") = true) ∧ (PySem.W.subIn K (.ref (glA K "BadText")) (.ref (glA K "SpellError")) = some true) ∧ (PySem.W.subIn K (.ref (glA K "BadMachine")) (.ref (glA K "SpellError")) = some true) ∧ (PySem.W.subIn K (.ref (glA K "BadNumber")) (.ref (glA K "SpellError")) = some true)
instance zCkD9 (K : PySem.W.Frag) : Decidable (zCkP9 K) := by unfold zCkP9; infer_instance
def zCkP10 (K : PySem.W.Frag) : Prop := (PySem.W.hasDictIn K (glA K "SpellError") = true) ∧ (PySem.W.findIn K (.ref (glA K "SpellError")) "__getattribute__" = some (some (.builtin "BaseException.__getattribute__"))) ∧ (PySem.W.findIn K (.ref (glA K "SpellError")) "__getattr__" = some none) ∧ (PySem.W.findIn K (.ref (glA K "SpellError")) "__class__" = some (some (.builtin "object.__class__"))) ∧ (PySem.W.mroIn K (glA K "SpellError") (.type "object") = some true) ∧ (PySem.W.subIn K (.ref (glA K "SpellError")) (.type "ValueError") = some true) ∧ (PySem.W.subIn K (.type "NoneType") (.ref (glA K "SpellError")) = some false) ∧ (PySem.W.specialIn K (.builtin "object.__class__") "__get__" = some (some (.builtin "getset_descriptor.__get__"))) ∧ (PySem.W.takesIn K (.builtin "object.__class__") = some true) ∧ (PySem.W.hasDictIn K (glA K "BadText") = true) ∧ (PySem.W.findIn K (.ref (glA K "BadText")) "__getattribute__" = some (some (.builtin "BaseException.__getattribute__"))) ∧ (PySem.W.findIn K (.ref (glA K "BadText")) "__getattr__" = some none) ∧ (PySem.W.findIn K (.ref (glA K "BadText")) "__class__" = some (some (.builtin "object.__class__"))) ∧ (PySem.W.mroIn K (glA K "BadText") (.type "object") = some true) ∧ (PySem.W.subIn K (.ref (glA K "BadText")) (.type "ValueError") = some true) ∧ (PySem.W.subIn K (.type "NoneType") (.ref (glA K "BadText")) = some false)
instance zCkD10 (K : PySem.W.Frag) : Decidable (zCkP10 K) := by unfold zCkP10; infer_instance
def zCkP11 (K : PySem.W.Frag) : Prop := (PySem.W.findIn K (.ref (glA K "BadMachine")) "__class__" = some (some (.builtin "object.__class__"))) ∧ (PySem.W.mroIn K (glA K "BadMachine") (.type "object") = some true) ∧ (PySem.W.subIn K (.type "NoneType") (.ref (glA K "BadMachine")) = some false) ∧ (PySem.W.hasDictIn K (glA K "BadNumber") = true) ∧ (PySem.W.findIn K (.ref (glA K "BadNumber")) "__getattribute__" = some (some (.builtin "BaseException.__getattribute__"))) ∧ (PySem.W.findIn K (.ref (glA K "BadNumber")) "__getattr__" = some none) ∧ (PySem.W.findIn K (.ref (glA K "BadNumber")) "__class__" = some (some (.builtin "object.__class__"))) ∧ (PySem.W.mroIn K (glA K "BadNumber") (.type "object") = some true) ∧ (PySem.W.subIn K (.ref (glA K "BadNumber")) (.type "ValueError") = some true) ∧ (PySem.W.subIn K (.type "NoneType") (.ref (glA K "BadNumber")) = some false) ∧ (PySem.W.subIn K (.ref (glA K "BadText")) (.ref (glA K "BadText")) = some true) ∧ (PySem.W.subIn K (.ref (glA K "SpellError")) (.ref (glA K "BadText")) = some false) ∧ (PySem.W.subIn K (.ref (glA K "BadMachine")) (.ref (glA K "BadText")) = some false) ∧ (PySem.W.subIn K (.ref (glA K "BadNumber")) (.ref (glA K "BadText")) = some false) ∧ (PySem.W.subIn K (.ref (glA K "BadNumber")) (.ref (glA K "BadNumber")) = some true) ∧ (PySem.W.subIn K (.ref (glA K "SpellError")) (.ref (glA K "BadNumber")) = some false)
instance zCkD11 (K : PySem.W.Frag) : Decidable (zCkP11 K) := by unfold zCkP11; infer_instance
def zCkP12 (K : PySem.W.Frag) : Prop := (PySem.W.subIn K (.ref (glA K "BadText")) (.ref (glA K "BadNumber")) = some false) ∧ (PySem.W.subIn K (.ref (glA K "BadMachine")) (.ref (glA K "BadNumber")) = some false) ∧ (PySem.W.nsIn K mainGlobals "_law_begin" = some (some (.ref (glA K "_law_begin")))) ∧ (dfA K (glA K "_law_begin") = .none) ∧ (PySem.W.codeIn K (cdA K (glA K "_law_begin")) "_law_begin" = true) ∧ (PySem.W.keepIn K (.ref (glA K "_law_begin")) = true) ∧ (PySem.W.nsIn K mainGlobals "_law_take" = some (some (.ref (glA K "_law_take")))) ∧ (dfA K (glA K "_law_take") = .none) ∧ (PySem.W.codeIn K (cdA K (glA K "_law_take")) "_law_take" = true) ∧ (PySem.W.keepIn K (.ref (glA K "_law_take")) = true) ∧ (PySem.W.nsIn K mainGlobals "law" = some (some (.ref (glA K "law")))) ∧ (dfA K (glA K "law") = .none) ∧ (PySem.W.codeIn K (cdA K (glA K "law")) "law" = true) ∧ (PySem.W.keepIn K (.ref (glA K "law")) = true) ∧ ((cdA K (glA K "law")) = .ref (refA (cdA K (glA K "law")))) ∧ (isFieldsB K (refA (cdA K (glA K "law"))) = true)
instance zCkD12 (K : PySem.W.Frag) : Decidable (zCkP12 K) := by unfold zCkP12; infer_instance
def zCkP13 (K : PySem.W.Frag) : Prop := ((fieldsA K (refA (cdA K (glA K "law"))))[11]? = some (.ref (refV1 (fieldsA K (refA (cdA K (glA K "law"))))[11]?))) ∧ (noAt K (refV1 (fieldsA K (refA (cdA K (glA K "law"))))[11]?) = true)
instance zCkD13 (K : PySem.W.Frag) : Decidable (zCkP13 K) := by unfold zCkP13; infer_instance
def zChk (K : PySem.W.Frag) : Bool := decide (zCkP0 K) && (decide (zCkP1 K) && (decide (zCkP2 K) && (decide (zCkP3 K) && (decide (zCkP4 K) && (decide (zCkP5 K) && (decide (zCkP6 K) && (decide (zCkP7 K) && (decide (zCkP8 K) && (decide (zCkP9 K) && (decide (zCkP10 K) && (decide (zCkP11 K) && (decide (zCkP12 K) && (decide (zCkP13 K)
)))))))))))))
def zFn0 : List (PySem.W.Frag → Addr) := [fun K => (glA K "is_integer"), fun K => (glA K "is_text"), fun K => (glA K "is_word"), fun K => (glA K "is_machine_row"), fun K => (meA K (glA K "Machine") "__init__"), fun K => (prA K (meA K (glA K "Machine") "rows")), fun K => (meA K (glA K "Machine") "__len__"), fun K => (glA K "goals_of"), fun K => (glA K "edges_of"), fun K => (glA K "shows_rate"), fun K => (glA K "_law_pick"), fun K => (glA K "_law_caught"), fun K => (glA K "_law_machine_rows"), fun K => (glA K "_law_due"), fun K => (glA K "_law_worths"), fun K => (glA K "_law_bent"), fun K => (meA K (glA K "BadMachine") "__init__"), fun K => (glA K "_law_begin"), fun K => (glA K "_law_take"), fun K => (glA K "law")]
def zVa0 : List FnW := [some ("is_integer", "is_integer", defArgs (zTop 8), .stmts (defBody (zTop 8)), defScope (zTop 8), mainGlobals, [], builtinsNs),
    some ("is_text", "is_text", defArgs (zTop 9), .stmts (defBody (zTop 9)), defScope (zTop 9), mainGlobals, [], builtinsNs),
    some ("is_word", "is_word", defArgs (zTop 10), .stmts (defBody (zTop 10)), defScope (zTop 10), mainGlobals, [], builtinsNs),
    some ("is_machine_row", "is_machine_row", defArgs (zTop 14), .stmts (defBody (zTop 14)), defScope (zTop 14), mainGlobals, [], builtinsNs),
    some ("__init__", "Machine.__init__", defArgs (inClass (zTop 15) 0), .stmts (defBody (inClass (zTop 15) 0)), defScope (inClass (zTop 15) 0), mainGlobals, [], builtinsNs),
    some ("rows", "Machine.rows", defArgs (inClass (zTop 15) 1), .stmts (defBody (inClass (zTop 15) 1)), defScope (inClass (zTop 15) 1), mainGlobals, [], builtinsNs),
    some ("__len__", "Machine.__len__", defArgs (inClass (zTop 15) 3), .stmts (defBody (inClass (zTop 15) 3)), defScope (inClass (zTop 15) 3), mainGlobals, [], builtinsNs),
    some ("goals_of", "goals_of", defArgs (zTop 17), .stmts (defBody (zTop 17)), defScope (zTop 17), mainGlobals, [], builtinsNs),
    some ("edges_of", "edges_of", defArgs (zTop 18), .stmts (defBody (zTop 18)), defScope (zTop 18), mainGlobals, [], builtinsNs),
    some ("shows_rate", "shows_rate", defArgs (zTop 19), .stmts (defBody (zTop 19)), defScope (zTop 19), mainGlobals, [], builtinsNs),
    some ("_law_pick", "_law_pick", defArgs (zTop 23), .stmts (defBody (zTop 23)), defScope (zTop 23), mainGlobals, [], builtinsNs),
    some ("_law_caught", "_law_caught", defArgs (zTop 24), .stmts (defBody (zTop 24)), defScope (zTop 24), mainGlobals, [], builtinsNs),
    some ("_law_machine_rows", "_law_machine_rows", defArgs (zTop 25), .stmts (defBody (zTop 25)), defScope (zTop 25), mainGlobals, [], builtinsNs),
    some ("_law_due", "_law_due", defArgs (zTop 26), .stmts (defBody (zTop 26)), defScope (zTop 26), mainGlobals, [], builtinsNs),
    some ("_law_worths", "_law_worths", defArgs (zTop 27), .stmts (defBody (zTop 27)), defScope (zTop 27), mainGlobals, [], builtinsNs),
    some ("_law_bent", "_law_bent", defArgs (zTop 28), .stmts (defBody (zTop 28)), defScope (zTop 28), mainGlobals, [], builtinsNs),
    some ("__init__", "BadMachine.__init__", defArgs (inClass (zTop 3) 0), .stmts (defBody (inClass (zTop 3) 0)), defScope (inClass (zTop 3) 0), mainGlobals, [("__class__" : Str)], builtinsNs),
    some ("_law_begin", "_law_begin", defArgs (zTop 21), .stmts (defBody (zTop 21)), defScope (zTop 21), mainGlobals, [], builtinsNs),
    some ("_law_take", "_law_take", defArgs (zTop 22), .stmts (defBody (zTop 22)), defScope (zTop 22), mainGlobals, [], builtinsNs),
    some ("law", "law", defArgs (zTop 29), .stmts (defBody (zTop 29)), defScope (zTop 29), mainGlobals, [], builtinsNs)]
def zFn : List (PySem.W.Frag → Addr) := zFn0
def zVa : List FnW := zVa0
set_option maxHeartbeats 0 in
theorem zRun (w : World) : HandSHeadRun.RunEq zRow zView (hookT zChk zFn zVa) (fun s => obsT zChk zFn (HandSHeadRun.getT s)) 40000 zLoose w := by
  intro os
  kernel_rfl
end G69
namespace G69
open PySem PySem.Spec PyProof.Rows L2 PySem.W
/-! ### an own error's __init__: super().__init__(text); self.f = f -/
def spXI (C : Addr) (f : Str) : L2.Sp := fun vs H Q _ => ∃ (a : Addr) (v : V), vs = [.ref a, v] ∧ H a = some (exo a C none) ∧ ∀ dx, H dx = none → dx ≠ a → Q .non (upd (upd H dx (exd dx [(f, v)])) a (exo a C (some dx)))
abbrev xiBody (f z : Str) (j : Nat) (p0 p1 p2 p3 p4 p5 q1 q2 q3 q4 : Pos) : List Stmt :=
  [.Expr (.Call (.Attribute (.Call (.Name "super" p0) [] [] p1) "__init__" p2) [.Constant (.str z) j p3] [] p4) p5, .Assign [.Attribute (.Name "self" q1) f q2] (.Name f q3) q4]
theorem xi_call {P : Program} {w : World} {A : Around} {E : Value → Shared → Prop} {h : Heap} {g : Array GenState} {d : Drawn} {t : Nat} {os : OsState}
    {nm q : Str} {C N : Addr} {bs bm : List Value} {hdct : Bool} {sn : List Str} {sub : List Value} {ab : Bool} {col : Option Bool} {dd : Option Addr} {k0 k1 k2 k3 k5 : Option Value}
    {u e t0 : Addr} {rest : List Value} {Q : Value → Shared → Prop}
    (hC : h.get? C = some (excClassObj nm q C N bs bm hdct sn sub ab col dd k0 k1 k2 k3 k5 "ValueError.__new__")) (he : h.get? e = some (HandSPX.excO C t0)) (hu : h.get? u = some (kxs_mw "ValueError.__init__" e)) (hrest : rest.length ≤ sizeLine)
    (hq : ∀ h' t1, (∀ b o, b ≠ e → h.get? b = some o → h'.get? b = some o) → h'.get? e = some (HandSPX.excO C t1) → Q .none ⟨h', g, d, t, os⟩) :
    wpAny (model P w) A (call (.ref u) rest) Q E ⟨h, g, d, t, os⟩ := by
  refine wpAny_call (codeAny_of_tree ?_)
  show wpAny _ A.in1 (callAny (.ref u) ⟨rest, []⟩) _ _ _
  simp only [callAny]
  refine wpAny_bind (wpAny_load hu ?_)
  simp only [kxs_mw, show (Value.type "method-wrapper" == Value.type "method" || Value.type "method-wrapper" == Value.type "builtin_function_or_method" || Value.type "method-wrapper" == Value.type "method-wrapper") = true by decide, if_true]
  refine W.KFB.if_so (by decide) ?_
  refine wpAny_bind (check_bound_init F.excBase_ValueError.toExcCallFacts hC he rfl ?_)
  refine wpAny_bind (wpAny_pure (wpAny_pure ?_))
  refine ⟨plainId_quiet F.excBase_ValueError.init.plain _, codeAny_builtin F.excBase_ValueError.initEntry ?_⟩
  exact exc_init_tree (cls := .ref C) (t0 := t0) (dv := none) (c2 := .none) (c3 := .none) (b4 := .bool false) he hrest fun h' k e' _ => hq h' _ k e'
section
variable {P : Program} {w : World} {K : PySem.W.Frag} {mg : Str → Option Value} {base : Heap}
theorem xi_ok {k : Nat} {fI C cda cc : Addr} {f qual z file : Str} {params : Arguments} {scope : Scope} {dV kV doc pm ct oc ccl cl : Value} {an od cdd cld : Option Addr} {osl ccs csl : Array (Option Value)} {cvs : Array Value} {tf : Tok} {ar : Arg} {j : Nat}
    {p0 p1 p2 p3 p4 p5 q1 q2 q3 q4 : Pos} {body : List Stmt}
    (lk : K.lookup fI = some ⟨oc, od, .func (ksFn "__init__" qual params body scope dV kV doc pm an (.ref cda) ct cc), osl⟩) (hbody : body = xiBody f z j p0 p1 p2 p3 p4 p5 q1 q2 q3 q4)
    (hcd : codeIn K (.ref cda) qual = true) (hcode : K.lookup cda = some ⟨ccl, cdd, .fields cvs, ccs⟩) (hvs : cvs[2]? = some (.str file tf)) (hfile : ((P.main.file : Str) == file) = true)
    (hcell : K.lookup cc = some ⟨cl, cld, .cell (some (.ref C)), csl⟩) (T : OexC K C) (hno : findIn K (.ref C) f = some none)
    (hsup : ks_superIn K C C "__init__" = some (some (.builtin "ValueError.__init__"))) (hsub : mroIn K C (.ref C) = some true) (hB : subIn K (.ref C) (.type "ValueError") = some true)
    (hs0 : mg "super" = none) (htop : (P.main.scope.names.lookup ("super" : Str)).isSome = false) (ho : nsIn K cStatics "thirdparty.any" = some none)
    (hpa : (params.posonlyargs ++ params.args).head? = some ar) (har : ar.arg = "self")
    (hks : scope.names.lookup ("super" : Str) = some .globalImplicit) (hkc : scope.names.lookup ("__class__" : Str) = some .free) (hka : scope.names.lookup ("self" : Str) = some .local) (hkf : scope.names.lookup f = some .local) (hk : scope.kind = .function)
    (hco : scope.isCoroutine = false) (hgen : scope.isGenerator = false) (hcl : ∀ x ∈ scope.names, x.2 ≠ .cell) {pl : Addr → Sem Bool}
    (hev : ∀ L : Addr, eval (.Call (.Attribute (.Call (.Name "super" p0) [] [] p1) "__init__" p2) [.Constant (.str z) j p3] [] p4) (callEnv (ksFn "__init__" qual params body scope dV kV doc pm an (.ref cda) ct cc) L fI) = (do
      let ov ← attributeBase (.Call (.Name "super" p0) [] [] p1) "__init__" (callEnv (ksFn "__init__" qual params body scope dV kV doc pm an (.ref cda) ct cc) L fI) (eval (.Call (.Name "super" p0) [] [] p1) (callEnv (ksFn "__init__" qual params body scope dV kV doc pm an (.ref cda) ct cc) L fI))
      standAt p2.atName
      let (f, first) ← holding [ov] (getMethod ov "__init__" (pl L))
      callWith p4 f first (backTo p4 (starEach [.Constant (.str z) j p3] (callEnv (ksFn "__init__" qual params body scope dV kV doc pm an (.ref cda) ct cc) L fI))) []))
    (hin : ∀ L : Addr, interactive (callEnv (ksFn "__init__" qual params body scope dV kV doc pm an (.ref cda) ct cc) L fI) = false)
    (hfs : f ≠ "self") (hfd : (f == ("__debug__" : Str)) = false) :
    FnOk P w K mg base (L2.CX P w) (k + 1) fI (ksFn "__init__" qual params body scope dV kV doc pm an (.ref cda) ct cc) ["self", f] (spXI C f) := by
  refine ⟨fun vs H Q E h => by obtain ⟨a, v, rfl, _⟩ := h; rfl, fun A outer s H args us vs Q E hr e0 hb r hsp => ?_⟩
  obtain ⟨a, v, rfl, ea, q⟩ := hsp
  obtain ⟨hp, g, d, t, os⟩ := s
  cases r with
  | @cons _ u0 _ ur ra rw' =>
  obtain rfl : u0 = Value.ref a := ra
  cases rw' with
  | @cons _ u1 _ ur2 r1 r2 =>
  cases r2
  have KX : K.In hp := e0.mod.kin.keeps fun b o e => (e0.bs b o e).1
  have lim : hp.NoLimit := e0.mod.nolimit.keeps fun b o e => (e0.bs b o e).1
  obtain ⟨t0, hoa⟩ := exo_at e0.hok ea
  obtain ⟨nm, qn, N, bs, bm, sn, sub, ab, col, dd, k0, k1, k2, k3, k5, hC, hbm⟩ := T.cls
  have hcls : clsIn K C = some { name := nm, bases := bs, mro := .ref C :: bm, ns := N, qualname := qn, hasDict := true, slotNames := sn, subclasses := sub, abstract := ab, collection := col, hasDel := false } := by unfold clsIn; rw [hC] <;> rfl
  subst hbody
  refine ks_codeAny_call_defAt hr.depth (KX _ _ lk) rfl lim (codeRec_of KX hcd) rfl hb hcl (fun x hx => ?_) (fun h₁ hns hk₁ => ?_) hco hgen hk
  · have hx' : x = (("self" : Str), Value.ref a) ∨ x = (f, u1) := by simpa using hx
    rcases hx' with rfl | rfl
    · exact hka
    · exact hkf
  have K1 : K.In h₁ := KX.keeps hk₁
  have mself : (fun y => ([("self" : Str), f].zip [Value.ref a, u1]).reverse.lookup y) ("self" : Str) = some (.ref a) := by
    show ([(f, u1), (("self" : Str), Value.ref a)] : List (Str × Value)).lookup ("self" : Str) = _
    have e : (("self" : Str) == f) = false := by simpa using Ne.symm hfs
    rw [List.lookup_cons, e]
    rfl
  have mf : (fun y => ([("self" : Str), f].zip [Value.ref a, u1]).reverse.lookup y) f = some u1 := by
    show ([(f, u1), (("self" : Str), Value.ref a)] : List (Str × Value)).lookup f = _
    rw [List.lookup_cons, beq_self_eq_true]
  have hglob : h₁.Ns mainGlobals mg := e0.mod.glob.keeps fun b o e => hk₁ _ _ (e0.bs b o e).1
  obtain ⟨mb, hmb, hbt⟩ := e0.mod.blt
  have hblt : h₁.Ns builtinsNs mb := hmb.keeps fun b o e => hk₁ _ _ (e0.bs b o e).1
  have hD1 : h₁.get? C = some (excClassObj nm qn C N bs bm true sn sub ab col dd k0 k1 k2 k3 k5 "ValueError.__new__") := K1 _ _ hC
  have hoa1 := hk₁ _ _ hoa
  refine ks_wpAt_execs_cons (ks_wpAt_Expr_any (ks_wpAt_MethodCall (ks_wpAt_super_base (env := callEnv (ksFn "__init__" qual params (xiBody f z j p0 p1 p2 p3 p4 p5 q1 q2 q3 q4) scope dV kV doc pm an (.ref cda) ct cc) hp.objs.size fI) hks hkc (by decide) rfl (K1 _ _ lk) rfl hpa rfl (K1 _ _ hcode) rfl hvs hfile htop ?_) (hev _)) (hin _))
  refine ks_loadName_global hk hks (Calls.loadGlobal_builtin (mg := mg) (mb := mb) hglob hs0 hblt ((hbt _ (by decide)).trans (by first | boot_by_name | rfl | kernel_rfl)) ⟨rfl, ?_⟩)
  refine wpAny_loadName_free hk hkc rfl ⟨_, K1 _ _ hcell, rfl⟩ ?_
  rw [har]
  refine wpAny_loadName_local hk hka hns mself ?_
  refine ks_wpAny_isType_cls hD1 rfl ⟨rfl, ?_⟩
  refine ks_wpAny_call_super hD1 rfl hoa1 rfl (fun c e => by cases e) (looks_mroIn K1 hsub) (fun h₂ e2 k2 => ?_)
  have K2 : K.In h₂ := K1.keeps k2
  have hne : a ≠ C := fun z => by
    have y := hoa1
    rw [z, hD1] at y
    cases y
  have hsup' : alongIn K "__init__" (((Value.ref C :: bm).dropWhile (· != .ref C)).drop 1) = some (some (.builtin "ValueError.__init__")) := by
    unfold ks_superIn at hsup
    rw [hcls] at hsup
    exact hsup
  refine kxs_getMethod kxs_ValueError e2 (looks_opaque K2 ho) (l₀ := .ref C :: bm) ((looks_clsIn K2 hcls).andThen .now) rfl K2 hsup' ?_ hne (by decide) ?_
  · exact (InstAt.type (ox := HandSPX.excO C t0) (od := none) ⟨k2 _ _ hoa1, rfl, rfl, trivial⟩).andThen (looks_subIn K2 hB)
  rw [show starEach [Expr.Constant (.str z) j p3] (callEnv (ksFn "__init__" qual params (xiBody f z j p0 p1 p2 p3 p4 p5 q1 q2 q3 q4) scope dV kV doc pm an (.ref cda) ct cc) hp.objs.size fI) = [(false, eval (Expr.Constant (.str z) j p3) (callEnv (ksFn "__init__" qual params (xiBody f z j p0 p1 p2 p3 p4 p5 q1 q2 q3 q4) scope dV kV doc pm an (.ref cda) ct cc) hp.objs.size fI))] from rfl]
  refine kxs_callWith (i := "ValueError.__init__") (x := a) rfl (Calls.evalArgs_plain (Calls.spliced_cons (Calls.Constant_str (k := j) (pos := p3) (Calls.spliced_nil ⟨Heap.get?_push_size _ rfl, ?_⟩))))
  have kp2 : ∀ b o, h₂.get? b = some o → (h₂.push (kxs_mw "ValueError.__init__" a)).get? b = some o := fun b o e => Heap.get?_push_of_some _ e
  refine xi_call (kp2 _ _ (k2 _ _ hD1)) (kp2 _ _ (k2 _ _ hoa1)) (Heap.get?_push_size _ rfl) (by show 1 ≤ sizeLine; decide) fun h₃ t1 k3 he3 => ?_
  have ch3 : ∀ b o, b ≠ a → h₁.get? b = some o → h₃.get? b = some o := fun b o nb e => k3 b o nb (kp2 _ _ (k2 _ _ e))
  have K3 : K.In h₃ := e0.mod.kin.keeps fun b o e => ch3 b o (fun z => by have y := (e0.bs b o e).2; rw [z, ea] at y; cases y) (hk₁ b o (e0.bs b o e).1)
  obtain ⟨oL, esL, epL, hoL, hrL⟩ := id hns
  have nL : hp.objs.size ≠ a := Nat.ne_of_gt (Heap.lt_size hoa)
  have hns3 : h₃.Ns hp.objs.size (fun y => ([("self" : Str), f].zip [Value.ref a, u1]).reverse.lookup y) := ⟨oL, esL, epL, ch3 _ _ nL hoL, hrL⟩
  show _root_.PySem.wpAt _ _ _ (execs _ _) _ _ _
  refine ks_wpAt_execs_cons (ks_wpAt_Assign_Attr (wpAt_of_wpAny (ldc hk hkf hns3 mf (ldc hk hka hns3 mself ?_) hfd)))
  refine PySem.W.set_plain K3 (ox := HandSPX.excO C t1) (od := none) ⟨he3, rfl, rfl, trivial⟩ T.sa ?_
  refine HandSPX.exc_osa K3 he3 hcls (show HandSPX.refsVE (.ref C :: bm) = true from hbm) rfl hno (fun h₄ tk' dx k4 dn dne hx hn => ?_)
  show _root_.PySem.wpAt _ _ _ (execs _ _) _ _ _
  refine wpAt_of_wpAny (wpAny_execs_nil ?_)
  have ch : ∀ b o, b ≠ a → hp.get? b = some o → h₄.get? b = some o := fun b o nb e => k4 b o nb (ch3 b o nb (hk₁ b o e))
  have ld : hp.objs.size < dx := Nat.lt_of_lt_of_le (Heap.lt_size (ch3 _ _ nL hoL)) dn
  have hnd : H dx = none := e0.hok.fresh (Nat.le_of_lt ld)
  have nd : ∀ {b : Addr} {o : Obj}, hp.get? b = some o → b ≠ dx := fun {b o} q => Nat.ne_of_lt (Nat.lt_trans (Heap.lt_size q) ld)
  have na : ∀ {b : Addr}, H b = none → b ≠ a := fun {b} n z => by
    rw [z, ea] at n
    cases n
  show CE outer P w H _ Q .none _
  refine ⟨.non, upd (upd H dx (exd dx [(f, v)])) a (exo a C (some dx)), rfl, e0.bare, ?_, ?_, rfl, q dx hnd dne⟩
  · exact {
      keep := fun b o q n _ _ => ch b o (na n) q
      slot := fun b o q n _ _ => ⟨o.slots, ch b o (na n) q⟩
      free := fun b o q n _ => by rw [upd_ne (na n), upd_ne (nd q)]; exact n
      there := fun b o q _ => by
        by_cases hb : b = a
        · exact ⟨_, by rw [hb]; exact hx⟩
        · exact ⟨o, ch b o hb q⟩
      tups := fun b xs q => by rw [upd_ne (at_ne ea q exo_tup), upd_ne (ne_of_none q hnd)]; exact q
      frzs := fun b o v q => by rw [upd_ne (at_ne ea q exo_frz), upd_ne (ne_of_none q hnd)]; exact q
      tbls := fun b ps q => ⟨#[], by rw [upd_ne (at_ne ea q exo_tbl), upd_ne (ne_of_none q hnd), q]; simp⟩ }
  · intro b o q
    by_cases hb : b = a
    · subst hb
      rw [upd_same] at q
      cases q
      exact exo_ok hx
    · rw [upd_ne hb] at q
      by_cases hd : b = dx
      · subst hd
        rw [upd_same] at q
        cases q
        exact exd_ok hn (relO_put (fs := []) r1 fun g => True.intro)
      · rw [upd_ne hd] at q
        exact (e0.hok b o q).stay (fun c v hc z => ch c v (by
            rcases hc with hc | hc
            · rw [hc]
              exact hb
            · exact at_ne ea hc exo_own) z)
          (fun c hc => by rw [upd_ne (at_ne ea hc exo_own), upd_ne (ne_of_none hc hnd)]; exact hc) (fun c xs hc => by rw [upd_ne (at_ne ea hc exo_tup), upd_ne (ne_of_none hc hnd)]; exact hc)
end
end G69
namespace PySem
namespace HandSPX
open Builtin Builtin.ObjectAttr
/-! ### an own error's class called by keywords -/
section
variable {M : Model} {A : Around} {E : Value → Shared → Prop} {h : Heap} {gs : Array GenState} {dr : Drawn} {tk : Nat} {os : OsState}
variable {nm q : Str} {C N : Addr} {bs bm mB : List Value} {hd : Bool} {sn : List Str} {sub : List Value} {ab : Bool} {col : Option Bool} {dd : Option Addr} {k0 k1 k2 k3 k5 : Option Value} {B nw ini : String} {kw : List (Str × Value)}
theorem tcallK {vs : List Value} {Q : Unit → Shared → Prop} (hC : h.get? C = some (excClassObj nm q C N bs bm hd sn sub ab col dd k0 k1 k2 k3 k5 nw)) (hq : Q () ⟨h, gs, dr, tk, os⟩) : wpAny M A (checkBuiltinCall "type.__call__" ⟨.ref C :: vs, kw⟩) Q E ⟨h, gs, dr, tk, os⟩ := by
  have z3 := tc_sub
  have zT : (⟨h, gs, dr, tk, os⟩ : Shared).TypeIs (.ref C) "type" := ⟨_, hC, rfl⟩
  simp only [checkBuiltinCall, tc_kind, tc_split]
  repeat (any_goals (first | assumption | with_reducible refine wpAny_loadPart_at hC ?_ | with_reducible refine wpAny_map ?_ | with_reducible refine wpAny_onRaise ?_ | wp_step))
theorem newK (F : ExcBaseFacts B nw ini mB) (hT : ∀ Y : String, bm.contains (.type Y) = mB.contains (.type Y)) {vs : List Value} {Q : Unit → Shared → Prop}
    (hC : h.get? C = some (excClassObj nm q C N bs bm hd sn sub ab col dd k0 k1 k2 k3 k5 nw)) (hq : Q () ⟨h, gs, dr, tk, os⟩) : wpAny M A (checkBuiltinCall nw ⟨.ref C :: vs, kw⟩) Q E ⟨h, gs, dr, tk, os⟩ := by
  have zc : (Value.ref C :: bm).contains (.type B) = true := by rw [List.contains_cons, hT, F.hasB, Bool.or_true]
  have zs := F.noStar
  simp only [checkBuiltinCall, F.newKind, F.newSplit, F.newRow]
  repeat (first | (refine wpAny_isSubtype_exc hC ?_; rw [zc]) | refine wpAny_loadPart_at hC ?_ | refine wpAny_madeBy_exc hC ?_ | refine wpAny_staticBase_exc hC ?_ | simp only [bne_self_eq_false, Bool.false_eq_true, if_false] | wp_step)
  exact hq
end
section
variable {prog : Program} {w : World} {A : Around} {E : Value → Shared → Prop} {R : Result → Shared → Prop} {h : Heap} {gs : Array GenState} {dr : Drawn} {tk : Nat} {os : OsState}
variable {nm q : Str} {C N : Addr} {bs bm mB : List Value} {hd : Bool} {sn : List Str} {sub : List Value} {ab : Bool} {col : Option Bool} {dd : Option Addr} {k0 k1 k2 k3 k5 : Option Value} {B nw ini : String} {kw : List (Str × Value)}
theorem laidK (F : ExcBaseFacts B nw ini mB) (hT : ∀ Y : String, bm.contains (.type Y) = mB.contains (.type Y)) {vs : List Value}
    (hC : h.get? C = some (excClassObj nm q C N bs bm hd sn sub ab col dd k0 k1 k2 k3 k5 nw))
    (hq : R (.ok (.ret (.ref (h.objs.size + 1)))) ⟨(h.push (W.kdv_tup vs)).push (excO C h.objs.size), gs, dr, tk, os⟩) (hl : vs.length ≤ sizeLine) :
    codeAny (model prog w) A (.builtin nw ⟨.ref C :: vs, kw⟩) R ⟨h, gs, dr, tk, os⟩ := by
  have ze := F.ends
  have zB : (Value.ref C :: bm).contains (.type B) = true := by rw [List.contains_cons, hT, F.hasB, Bool.or_true]
  have zA : (Value.ref C :: bm).contains (.type "AttributeError") = false := by rw [List.contains_cons, hT, F.noAttr]; rfl
  have zN : (Value.ref C :: bm).contains (.type "NameError") = false := by rw [List.contains_cons, hT, F.noName]; rfl
  refine codeAny_builtinAt F.entry ?_
  unfold Builtin.«BaseException.__new__»
  refine wpAt_bind ?_
  show wpAt _ _ _ (stack >>= _) _ _ _
  refine wpAt_bind (wpAt_stack fun _ _ => wpAt_of_wpAny ?_)
  wp_walk
  refine wpAt_of_wpAny ?_
  rw [F.owner]
  repeat (first | with_reducible refine wpAny_loadPart_at hC ?_ | with_reducible refine wpAny_madeHere_exc F.canon hC ?_ | (with_reducible refine wpAny_isSubtype_exc hC ?_; first | rw [zN] | rw [zB] | rw [zA]) | wp_step)
  show R _ _
  rw [Heap.size_push]
  exact hq
theorem tcodeK (F : ExcBaseFacts B nw ini mB) (hT : ∀ Y : String, bm.contains (.type Y) = mB.contains (.type Y)) {vs : List Value} {fI : Addr} {Q : Fin → Shared → Prop}
    (hC : h.get? C = some (excClassObj nm q C N bs bm hd sn sub ab col dd k0 k1 k2 k3 k5 nw))
    (hi : W.Looks (model prog w) h (typeLookup (.ref C) "__init__") (some (.ref fI))) (hb : ∀ x, W.Looks (model prog w) h (bindSpecial (.ref fI) x) (.ref fI, [x])) (hl : vs.length ≤ sizeLine)
    (hq : codeAny (model prog w) A (.call (.ref fI) ⟨.ref (h.objs.size + 1) :: vs, kw⟩)
      (fun r s' => match r with | .error x => E x s' | .ok (.ret v) => v = .none ∧ Q (.done (.ret (.ref (h.objs.size + 1)))) s' | .ok _ => False)
      ⟨(h.push (W.kdv_tup vs)).push (excO C h.objs.size), gs, dr, tk, os⟩) :
    wpAny (model prog w) A (Builtin.«type.__call__» ⟨.ref C :: vs, kw⟩) Q E ⟨h, gs, dr, tk, os⟩ := by
  repeat (first | with_reducible refine wpAny_madeBy_exc hC ?_ | with_reducible refine wpAny_loadPart_at hC ?_ | wp_step)
  refine codeAny_call_builtin_code (Code.quiet_builtin _ F.quiet) (newK F hT hC ?_)
  refine laidK F hT hC ?_ hl
  show wpAny _ _ _ _ _ _
  have k : ∀ b o, h.get? b = some o → ((h.push (W.kdv_tup vs)).push (excO C h.objs.size)).get? b = some o := fun b o y => Heap.get?_push_of_some _ (Heap.get?_push_of_some _ y)
  have h1 := k _ _ hC
  have h2 : ((h.push (W.kdv_tup vs)).push (excO C h.objs.size)).get? (h.objs.size + 1) = some (excO C h.objs.size) := by heap_get
  have h3 : (Value.ref C :: bm).contains (.ref C) = true := by simp
  have i1 := hi.keeps k
  have b1 := (hb (.ref (h.objs.size + 1))).keeps k
  unfold isInstance
  repeat (first | with_reducible refine wpAny_loadPart_at h2 ?_ | (with_reducible refine wpAny_isSubtype_exc h1 ?_; rw [h3]) | wp_step)
  show wpAny _ _ (typeLookup (.ref C) _) _ _ _
  refine i1.at (wpAny_holding (wpAny_bind (b1.at (wpAny_bind (wpAny_call (codeAny_mono hq fun r s' z => ?_))))))
  rcases r with e | (v | _ | _ | _) <;> first | exact z | exact z.elim | skip
  obtain ⟨rfl, z⟩ := z
  first
    | (wp_walk; exact z)
    | exact wpAny_pure (wpAny_pure z)
theorem ownK (F : ExcBaseFacts B nw ini mB) (hT : ∀ Y : String, bm.contains (.type Y) = mB.contains (.type Y)) {vs : List Value} {fI : Addr}
    (hC : h.get? C = some (excClassObj nm q C N bs bm hd sn sub ab col dd k0 k1 k2 k3 k5 nw))
    (hi : W.Looks (model prog w) h (typeLookup (.ref C) "__init__") (some (.ref fI))) (hb : ∀ x, W.Looks (model prog w) h (bindSpecial (.ref fI) x) (.ref fI, [x])) (hl : vs.length ≤ sizeLine)
    (hq : codeAny (model prog w) (A.under (.builtin "type.__call__" ⟨.ref C :: vs, kw⟩)) (.call (.ref fI) ⟨.ref (h.objs.size + 1) :: vs, kw⟩) (W.InitBack (h.objs.size + 1) R)
      ⟨(h.push (W.kdv_tup vs)).push (excO C h.objs.size), gs, dr, tk, os⟩) :
    codeAny (model prog w) A (.call (.ref C) ⟨vs, kw⟩) R ⟨h, gs, dr, tk, os⟩ := by
  have z1 := tc_lookup
  have z2 := tc_bind (.ref C)
  have zT : (⟨h, gs, dr, tk, os⟩ : Shared).TypeIs (.ref C) "type" := ⟨_, hC, rfl⟩
  refine codeAny_of_tree ?_
  show wpAny _ _ (callAny (.ref C) _) _ _ _
  repeat (any_goals (first | with_reducible refine wpAny_loadPart_at hC ?_ | assumption | wp_step))
  refine ⟨rfl, codeAny_call_builtin_at (Code.quiet_builtin _ (by decide +kernel)) entry_typeCall (tcallK hC (tcodeK F hT hC hi hb hl (codeAny_mono hq fun r s' z => ?_)))⟩
  rcases r with e | (v | _ | _ | _) <;> exact z
end
end HandSPX
end PySem
namespace G69
open PySem PySem.Spec PyProof.Rows L2
/-! ### try: a body, clauses with or without a name -/
def inAs (o : Option Nat) (a : Addr) (σ : L2.St) : L2.St := match o with
  | some i => σ.set i (some (.ref a))
  | none => σ
def outAs (o : Option Nat) (σ : L2.St) : L2.St := match o with
  | some i => σ.set i none
  | none => σ
/-- an error as it lies in the heap behind the clause that caught it -/
def ErO (cls : Value) (d : Option Addr) (a : Addr) : HO := .ext fun h => ∃ oe : Obj, h.get? a = some oe ∧ Zc cls d oe ∧ ∃ vs, oe.data = .fields vs
theorem erO_ok {P : Program} {w : World} {H : Hp} {h : Heap} {a : Addr} {cls : Value} {d : Option Addr} {oe : Obj} (e : h.get? a = some oe) (z : Zc cls d oe) (f : ∃ vs, oe.data = .fields vs) : ObjOk P w H h a (ErO cls d a) :=
  ⟨⟨oe, e, z, f⟩, ⟨oe, e⟩, fun _ _ ⟨o, q, r⟩ k => ⟨o, k o q, r⟩⟩
theorem inv_track {X : Cx} {pins : List (Addr × Obj)} {σ : L2.St} {H : Hp} {s : Shared} {a : Addr} {cls : Value} {d : Option Addr} {oe : Obj} (I : Inv X pins σ H s) (hn : H a = none) (he : s.heap.get? a = some oe) (hz : Zc cls d oe) (hf : ∃ vs, oe.data = .fields vs)
    (h0 : ∀ o, X.s_0.heap.get? a = some o → X.H_0 a = none → a ∉ X.ex → False) (hL : a ≠ X.env.locals) (hp : ∀ p ∈ X.pn ++ pins, p.1 ≠ a) : Inv X pins σ (upd H a (ErO cls d a)) s := by
  have ne : ∀ {b : Addr} {u : HO}, H b = some u → b ≠ a := fun e => ne_of_none e hn
  have B := I.base
  refine ⟨I.ok, I.os, I.bare, { keep := B.keep, slot := B.slot, free := fun b o e n hx => ?_, there := B.there, tups := fun b xs e => ?_, frzs := fun b o u e => ?_, tbls := fun b ps e => ?_ }, I.loc, I.cell, ?_, fun x c e => ?_, fun p hm => ?_, fun b u e => ?_, I.len⟩
  · by_cases hb : b = a
    · subst hb
      exact (h0 o e n hx).elim
    · rw [upd_ne hb]
      exact B.free b o e n hx
  · have q := B.tups b xs e
    rw [upd_ne (ne q)]
    exact q
  · have q := B.frzs b o u e
    rw [upd_ne (ne q)]
    exact q
  · obtain ⟨m, q⟩ := B.tbls b ps e
    exact ⟨m, by rw [upd_ne (ne q)]; exact q⟩
  · rw [upd_ne (Ne.symm hL)]
    exact I.free
  · obtain ⟨v, o, ho, hd⟩ := I.cell x c e
    rw [upd_ne]
    · exact I.freeC x c e
    · rintro rfl
      obtain ⟨vs, hv⟩ := hf
      rw [he] at ho
      cases ho
      rw [hv] at hd
      cases hd
  · obtain ⟨q1, q2, q3⟩ := I.pin p hm
    exact ⟨q1, by rw [upd_ne (hp p hm)]; exact q2, q3⟩
  · by_cases hb : b = a
    · subst hb
      rw [upd_same] at e
      cases e
      exact erO_ok he hz hf
    · rw [upd_ne hb] at e
      exact (I.hok b u e).stay (fun c v _ q => q) (fun c q => by rw [upd_ne (ne q)]; exact q) fun c xs q => by rw [upd_ne (ne q)]; exact q
def endAs (o : Option Nat) (a : Addr) (cls : Value) (d : Option Addr) (D : Ends) : Ends := { nx := fun σ H => D.nx (outAs o σ) H ∨ (H a = none ∧ D.nx (outAs o σ) (upd H a (ErO cls d a))), rt := D.rt, bk := fun σ H => D.bk (outAs o σ) H, ct := fun σ H => D.ct (outAs o σ) H }
abbrev TC := Addr → Value → Option Addr → TS
def wMix (K : PySem.W.Frag) (Wo : WX) (D : Ends) : List (Value × Option Nat × TC) → WX
  | [] => Wo
  | (c, o, ts) :: r => fun cls d σ H => ∃ b, PySem.W.exmOne K cls c = some b ∧ (b = true → ∀ a, H a = none → ts a cls d (endAs o a cls d D) (inAs o a σ) H) ∧ (b = false → wMix K Wo D r cls d σ H)
inductive ClOk (X : Cx) : List ExceptHandler → List (Value × Option Nat × TC) → Prop
  | nil : ClOk X [] []
  | as {x n : Str} {c : Value} {i : Nat} {ts : TC} {b₀ : Stmt} {su : List Stmt} {np hp : Pos} {hds : List ExceptHandler} {l : List (Value × Option Nat × TC)} (hc : Names X x c) (hi : X.N[i]? = some n) (hl : X.env.kindOf n = some .local)
      (hs : ∀ (a : Addr) (oe : Obj) (cls : Value) (d : Option Addr) (pn : List (Addr × Obj)), Zc cls d oe → (∃ vs, oe.data = .fields vs) → PSs (X.suite a ((a, oe) :: pn)) (b₀ :: su) (ts a cls d)) (r : ClOk X hds l) :
      ClOk X (.ExceptHandler (some (.Name x np)) (some n) (b₀ :: su) hp :: hds) ((c, some i, ts) :: l)
  | no {x : Str} {c : Value} {ts : TC} {b₀ : Stmt} {su : List Stmt} {np hp : Pos} {hds : List ExceptHandler} {l : List (Value × Option Nat × TC)} (hc : Names X x c)
      (hs : ∀ (a : Addr) (oe : Obj) (cls : Value) (d : Option Addr) (pn : List (Addr × Obj)), Zc cls d oe → (∃ vs, oe.data = .fields vs) → PSs (X.suite a ((a, oe) :: pn)) (b₀ :: su) (ts a cls d)) (r : ClOk X hds l) :
      ClOk X (.ExceptHandler (some (.Name x np)) none (b₀ :: su) hp :: hds) ((c, none, ts) :: l)
theorem ps_tryM {X : Cx} {body : List Stmt} {h₀ : ExceptHandler} {hds : List ExceptHandler} {l : List (Value × Option Nat × TC)} {pos : Pos} {tb : WX → TS} {Wo : WX} (hst : X.stack = X.env :: X.outer) (hfr : X.env.frame = some X.env.locals) (hN : X.N.Nodup) (tk : Takes X Wo)
    (hb : ∀ (W : WX) (pn : List (Addr × Obj)) (xe : Value → Shared → Prop), Takes (X.tr pn xe) W → PassesOwn (model X.prog X.w) X.A X.env xe → PSs (X.tr pn xe) body (tb W))
    (hh : ClOk X (h₀ :: hds) l) : PS X (.Try body (h₀ :: hds) [] [] pos) (fun D σ H => tb (wMix X.K Wo D l) D σ H) := by
  constructor
  intro pins s σ H D I hyp
  have okX := I.ok
  have fr0 : X.A.frames = some (X.env :: X.outer) := by rw [okX.frames, hst]
  refine wpAny_Try_except (wpAny_mono ((hb (wMix X.K Wo D l) (X.pn ++ pins) (fun er s1 => wpAny (model X.prog X.w) X.A (noteFrame er X.env) (fun _ s2 => wpAny (model X.prog X.w) X.A (setFlight er none) (fun _ s3 =>
    wpAny (model X.prog X.w) X.A (handleBy er X.env (h₀ :: hds)) (SP X pins D) X.xe s3) X.xe s2) X.xe s1) ?caught PassesOwn.looking).run [] s σ H D (I.toTry _) hyp) ?ran fun _ _ z => z)
  case ran =>
    intro fl s1 z
    cases fl with
    | ret u =>
      obtain ⟨v, σ1, H1, J, rv, qq⟩ := z
      exact ⟨v, σ1, H1, J.ofTry okX, rv, qq⟩
    | next =>
      obtain ⟨σ1, H1, J, qq⟩ := z
      exact wpAny_execs_nil ⟨σ1, H1, J.ofTry okX, qq⟩
    | brk =>
      obtain ⟨σ1, H1, J, qq⟩ := z
      exact ⟨σ1, H1, J.ofTry okX, qq⟩
    | cont =>
      obtain ⟨σ1, H1, J, qq⟩ := z
      exact ⟨σ1, H1, J.ofTry okX, qq⟩
  case caught =>
    rintro u s1 ⟨a, B, sI, pins', σ1, H1, cls, d, rfl, J0, nb, up0, sky, na, eos, ag, w⟩
    have J : Inv X pins σ1 H1 sI := J0.ofTry okX
    rw [show (X.tr (X.pn ++ pins) _).stack = X.env :: X.outer from hst] at sky
    show wpAny (model X.prog X.w) X.A (noteFrame (.ref a) X.env) _ _ _
    refine Sky.land Zc.steady fr0 hfr sky fun h3 fl3 up3 => ?_
    have J3 : Inv X pins σ1 H1 { s1 with heap := h3 } := J.landed nb fl3.1 (up0.trans up3) eos ag
    obtain ⟨oe3, vs3, he3, hz3, hd3⟩ := fl3.there
    have off : a ∉ frs (X.env :: X.outer) := fun hm => by
      obtain ⟨_, o', e', hnf⟩ := fl3.2.2.1.mem hm
      rw [he3] at e'
      cases e'
      exact hnf _ hd3
    have offL : a ≠ X.env.locals := fun z => off (List.mem_filterMap.mpr ⟨X.env, List.mem_cons_self, by rw [hfr, z]⟩)
    have offF : a ∉ X.fs := fun hm => by
      obtain ⟨e, he, qq⟩ := List.mem_filterMap.mp hm
      exact off (List.mem_filterMap.mpr ⟨e, List.mem_cons_of_mem _ he, qq⟩)
    have S3 := J3.suite he3 hd3 na offL offF
    have notB : ∀ {b : Addr} {o : Obj}, sI.heap.get? b = some o → b ∉ frs X.stack → b ≠ a := fun {b o} e n z => by
      have q := nb b o e n
      rw [z, fl3.2.1] at q
      cases q
    have offS : a ∉ frs X.stack := by rw [hst]; exact off
    have old0 : ∀ o, X.s_0.heap.get? a = some o → X.H_0 a = none → a ∉ X.ex → False := fun o e n hx => by
      obtain ⟨sl, q⟩ := J.base.any e n hx
      exact notB q offS rfl
    have offP : ∀ p ∈ X.pn ++ pins, p.1 ≠ a := fun p hm => by
      obtain ⟨q1, _, q3, q4, _⟩ := J.pin p hm
      refine notB q1 fun hf => ?_
      rw [hst] at hf
      rcases List.mem_filterMap.mp hf with ⟨e, he, qq⟩
      rcases List.mem_cons.mp he with rfl | he
      · rw [hfr] at qq
        exact q3 (Option.some.inj qq).symm
      · exact q4 (List.mem_filterMap.mpr ⟨e, he, qq⟩)
    have LT : PySem.W.Looks (model X.prog X.w) h3 (typeOf (.ref a)) cls := fun A Q E s k qq => wpAny_typeOf_ref (k _ _ he3) (by rw [hz3.1]; exact qq)
    have test : ∀ {x : Str} {c : Value} {np : Pos} {Q : Value → Shared → Prop} {E : Value → Shared → Prop}, Names X x c → Q c { s1 with heap := h3 } → wpAny (model X.prog X.w) (X.A.mark (some (.ref a))) (eval (.Name x np) X.env) Q E { s1 with heap := h3 } := fun {x c np Q E} hc qq => by
      rcases hc with ⟨hg, hdb, hm | ⟨hm, hv, hnn⟩⟩
      · exact ld_glob (X := X.suite a ((a, oe3) :: (X.pn ++ pins))) S3 hg hm qq hdb
      · exact ld_blt (X := X.suite a ((a, oe3) :: (X.pn ++ pins))) S3 hg hm hv qq hnn hdb
    have go : ∀ {hs2 : List ExceptHandler} {l2 : List (Value × Option Nat × TC)}, ClOk X hs2 l2 → wMix X.K Wo D l2 cls d σ1 H1 → wpAny (model X.prog X.w) X.A (handleBy (.ref a) X.env hs2) (SP X pins D) X.xe { s1 with heap := h3 } := by
      intro hs2 l2 ck
      induction ck with
      | nil =>
        intro w
        refine wpAny_handleBy_nil ?_
        obtain ⟨_, _, _, oe, vs, tb', oT, ts', he, hz, hd, h1, _⟩ := id fl3
        unfold PySem.passOn
        refine wpAny_bind (wpAny_field he hd h1 ?_)
        rw [if_neg (show ¬ ((Value.ref tb' == Value.none) = true) from by simp)]
        have fin : wpAny (model X.prog X.w) X.A (setFlight (.ref a) X.env.frame) (fun _ s4 => wpAny (model X.prog X.w) X.A (throw (.ref a) : Sem Flow) (SP X pins D) X.xe s4) X.xe { s1 with heap := h3 } := by
          rw [hfr]
          exact HandSPX.setFlight_upZ fl3 fun h4 hh4 up4 => wpAny_throw (tk _ _ ⟨a, B, sI, pins, σ1, H1, cls, d, rfl, J, nb, (up0.trans up3).trans up4, .inr (.inr (by rw [hst]; exact hh4)), na, eos, ag, w⟩)
        first
          | exact wpAny_bind (wpAny_pure (wpAny_bind fin))
          | exact wpAny_bind fin
      | @as x n c i ts b₀ su np hp hds2 l3 hc hi hl hsu r ih =>
        rintro ⟨b, hb1, hyes, hno⟩
        have LM := PySem.W.exm_one (M := model X.prog X.w) J3.kIn LT hb1
        refine wpAny_handleBy_cons (codeAny_handlers_test (test hc (LM.here ?_))) (by intro z; cases z)
        cases b with
        | false => exact ih (hno rfl)
        | true =>
          refine codeAny_handlers_suite_as (HandSPX.lands_againZ fl3 fun h4 fl4 up4 => ?_)
          have J4 : Inv X pins σ1 H1 { s1 with heap := h4 } := J.landed nb fl4.1 ((up0.trans up3).trans up4) eos ag
          obtain ⟨oe4, vs4, he4, hz4, hd4⟩ := fl4.there
          have S4 := J4.suite he4 hd4 na offL offF
          refine store_ok (X := X.suite a ((a, oe4) :: (X.pn ++ pins))) (v := .ref a) S4 hN hi (.inl hl) rfl (fun s5 S5 => ?_) (.inr hl)
          refine wpAny_mono ((hsu a oe4 cls d (X.pn ++ pins) hz4 ⟨_, hd4⟩).run [] s5 _ H1 _ S5 (hyes rfl a na)) (fun fl s6 z => ?_) fun _ _ z => False.elim z
          have kept : ∀ {σ6 : L2.St} {H6 : Hp}, Inv (X.suite a ((a, oe4) :: (X.pn ++ pins))) [] σ6 H6 s6 → Inv X pins σ6 (upd H6 a (ErO cls d a)) s6 := fun S6 => by
            obtain ⟨p1, p2, _⟩ := S6.pin (a, oe4) (List.mem_append_left _ List.mem_cons_self)
            exact inv_track (S6.unsuite okX) p2 p1 hz4 ⟨_, hd4⟩ old0 offL offP
          have gone : ∀ {σ6 : L2.St} {H6 : Hp} {Q : Shared → Prop}, Inv (X.suite a ((a, oe4) :: (X.pn ++ pins))) [] σ6 H6 s6 → (∀ s7, Inv X pins (σ6.set i none) H6 s7 → Q s7) →
              wpAny (model X.prog X.w) X.A (do bindName X.env n .none; unbindBehindTheSuite X.env n hp) (fun _ s7 => Q s7) X.xe s6 := fun {σ6 H6 Q} S6 qq => gone_ok (S6.unsuite okX) hN hi hl qq
          cases fl with
          | ret u =>
            obtain ⟨v6, σ6, H6, S6, r6, q6⟩ := z
            exact gone S6 fun s7 J7 => ⟨_, _, _, J7, r6, q6⟩
          | next =>
            obtain ⟨σ6, H6, S6, q6⟩ := z
            rcases q6 with q6 | ⟨_, q6⟩
            · exact gone S6 fun s7 J7 => ⟨_, _, J7, q6⟩
            · exact gone_ok (kept S6) hN hi hl fun s7 J7 => ⟨_, _, J7, q6⟩
          | brk =>
            obtain ⟨σ6, H6, S6, q6⟩ := z
            exact gone S6 fun s7 J7 => ⟨_, _, J7, q6⟩
          | cont =>
            obtain ⟨σ6, H6, S6, q6⟩ := z
            exact gone S6 fun s7 J7 => ⟨_, _, J7, q6⟩
      | @no x c ts b₀ su np hp hds2 l3 hc hsu r ih =>
        rintro ⟨b, hb1, hyes, hno⟩
        have LM := PySem.W.exm_one (M := model X.prog X.w) J3.kIn LT hb1
        refine wpAny_handleBy_cons (codeAny_handlers_test (test hc (LM.here ?_))) (by intro z; cases z)
        cases b with
        | false => exact ih (hno rfl)
        | true =>
          refine codeAny_handlers_suite (HandSPX.lands_againZ fl3 fun h4 fl4 up4 => ?_)
          have J4 : Inv X pins σ1 H1 { s1 with heap := h4 } := J.landed nb fl4.1 ((up0.trans up3).trans up4) eos ag
          obtain ⟨oe4, vs4, he4, hz4, hd4⟩ := fl4.there
          have S4 := J4.suite he4 hd4 na offL offF
          refine wpAny_mono ((hsu a oe4 cls d (X.pn ++ pins) hz4 ⟨_, hd4⟩).run [] _ _ H1 _ S4 (hyes rfl a na)) (fun fl s6 z => ?_) fun _ _ z => False.elim z
          cases fl with
          | ret u =>
            obtain ⟨v6, σ6, H6, S6, r6, q6⟩ := z
            exact ⟨_, _, _, S6.unsuite okX, r6, q6⟩
          | next =>
            obtain ⟨σ6, H6, S6, q6⟩ := z
            rcases q6 with q6 | ⟨_, q6⟩
            · exact ⟨_, _, S6.unsuite okX, q6⟩
            · obtain ⟨p1, p2, _⟩ := S6.pin (a, oe4) (List.mem_append_left _ List.mem_cons_self)
              exact ⟨_, _, inv_track (S6.unsuite okX) p2 p1 hz4 ⟨_, hd4⟩ old0 offL offP, q6⟩
          | brk =>
            obtain ⟨σ6, H6, S6, q6⟩ := z
            exact ⟨_, _, S6.unsuite okX, q6⟩
          | cont =>
            obtain ⟨σ6, H6, S6, q6⟩ := z
            exact ⟨_, _, S6.unsuite okX, q6⟩
    exact go hh w
end G69
namespace G69
open PySem PySem.Spec PyProof.Rows L2
/-! ### the text by places -/
def topS (i : Nat) : Stmt := PySem.Challenge.pw_meantword_k63_worths_judged.main.body.getD i (.Pass ⟨0, 0, 0, 0⟩)
/-! ### heaps: all but some addresses is kept -/
def Kp (S : List Addr) (H H' : Hp) : Prop := ∀ a o, H a = some o → a ∉ S → H' a = some o
theorem Kp.rfl' {S : List Addr} {H : Hp} : Kp S H H := fun _ _ h _ => h
theorem Kp.trans {S : List Addr} {H H1 H2 : Hp} (x : Kp S H H1) (y : Kp S H1 H2) : Kp S H H2 := fun a o h n => y a o (x a o h n) n
theorem Kp.new {S : List Addr} {H : Hp} {p : Addr} {o : HO} (h : H p = none) : Kp S H (upd H p o) := fun a u e _ => by
  rw [upd_ne (ne_of_none e h)]
  exact e
theorem Kp.put {S : List Addr} {H : Hp} {p : Addr} {o : HO} (h : p ∈ S) : Kp S H (upd H p o) := fun a u e n => by
  rw [upd_ne (fun z => n (by rw [z]; exact h))]
  exact e
/-- an address that H does not know may change -/
theorem Kp.mut {S : List Addr} {H H' : Hp} {p : Addr} {o : HO} (x : Kp S H H') (h : H p = none) : Kp S H (upd H' p o) := fun a u e n => by
  rw [upd_ne (ne_of_none e h)]
  exact x a u e n
theorem Kp.mono {S S' : List Addr} {H H' : Hp} (x : Kp S H H') (h : ∀ a ∈ S, a ∈ S') : Kp S' H H' := fun a o e n => x a o e (fun z => n (h a z))
theorem Kp.free {H H' : Hp} {p : Addr} (x : Kp [] H H') (h : H' p = none) : H p = none := by
  cases e : H p with
  | none => rfl
  | some o =>
    have := x p o e (fun z => by cases z)
    rw [h] at this
    cases this
/-- an address that was free and is not among S stays out of what was known -/
theorem Kp.back {S : List Addr} {H H' : Hp} {p : Addr} (x : Kp S H H') (n : p ∉ S) (h : H' p = none) : H p = none := by
  cases e : H p with
  | none => rfl
  | some o =>
    have := x p o e n
    rw [h] at this
    cases this
theorem Kp.rd {S : List Addr} {H H' : Hp} {a : Addr} {u : HO} (x : Kp S H H') (n : a ∉ S) (h : Rd H a u) : Rd H' a u := by
  rcases h with h | ⟨o, h⟩
  · exact .inl (x a _ h n)
  · exact .inr ⟨o, x a _ h n⟩
theorem Kp.l {K : PySem.W.Frag} {S : List Addr} {H H' : Hp} {a : Addr} {xs : List V} (x : Kp S H H') (n : a ∉ S) (h : SqL K H a xs) : SqL K H' a xs := by
  rcases h with h | h
  · exact .inl (x.rd n h)
  · exact .inr h
theorem Kp.t {K : PySem.W.Frag} {S : List Addr} {H H' : Hp} {a : Addr} {xs : List V} (x : Kp S H H') (n : a ∉ S) (h : SqT K H a xs) : SqT K H' a xs := by
  rcases h with h | h
  · exact .inl (x.rd n h)
  · exact .inr h
theorem intAt {ns : List Int} {i : Nat} {x : V} (hi : (ns.map V.int)[i]? = some x) : ∃ z, ns[i]? = some z ∧ x = V.int z := by
  rw [List.getElem?_map] at hi
  cases e : ns[i]? with
  | none => rw [e] at hi; cases hi
  | some z => rw [e] at hi; exact ⟨z, rfl, (Option.some.inj hi).symm⟩
theorem perm_erase {α : Type} : ∀ (l : List α) (i : Nat) (h : i < l.length), (l[i] :: l.eraseIdx i).Perm l
  | x :: r, 0, _ => List.Perm.refl _
  | x :: r, i + 1, h => by
    have ih := perm_erase r i (Nat.lt_of_succ_lt_succ h)
    exact (List.Perm.swap _ _ _).trans (List.Perm.cons x ih)
theorem map_erase {α β : Type} (f : α → β) : ∀ (l : List α) (i : Nat), (l.map f).eraseIdx i = (l.eraseIdx i).map f
  | [], _ => rfl
  | x :: r, 0 => rfl
  | x :: r, i + 1 => congrArg (f x :: ·) (map_erase f r i)
theorem notnil {a : Addr} : a ∉ ([] : List Addr) := fun z => by cases z
theorem not1 {a b : Addr} (h : a ≠ b) : a ∉ [b] := fun z => by
  cases z with
  | head => exact h rfl
  | tail _ z => cases z
theorem not2 {a b c : Addr} (h : a ≠ b) (g : a ≠ c) : a ∉ [b, c] := fun z => by
  cases z with
  | head => exact h rfl
  | tail _ z =>
    cases z with
    | head => exact g rfl
    | tail _ z => cases z
/-- fewer than some size is within the line -/
theorem szle {n : Nat} (h : n ≤ 1000000) : n ≤ sizeLine := Nat.le_trans h (by decide)
theorem szlt {n : Nat} (h : n ≤ 1000000) : n < sizeLine := Nat.lt_of_le_of_lt h (by decide)
end G69
namespace G69
open PySem PySem.Spec PyProof.Rows L2
/-! ### the drawing -/
abbrev kLarge : Key := Sum.inr "large"
abbrev kCells : Key := Sum.inr "cells"
abbrev kRest : Key := Sum.inr "rest"
abbrev kTurn : Key := Sum.inr "turn"
abbrev kMix : Key := Sum.inr "mix"
def drawK (l c : Addr) (r t m : Int) : List (Key × V) := [(kLarge, .ref l), (kCells, .ref c), (kRest, .int r), (kTurn, .int t), (kMix, .int m)]
structure DrX (H : Hp) (d l c : Addr) (ls cs : List Int) (r t m : Int) : Prop where
  dd : H d = some (.dK (drawK l c r t m))
  hl : H l = some (.lst (ls.map V.int))
  hc : H c = some (.lst (cs.map V.int))
  ne : l ≠ c
  ll : ls.length ≤ 100
  lc : cs.length ≤ 100
  mm : 0 ≤ m ∧ m < 2147483629
  pr : 0 ≤ r
  pl : ∀ z ∈ ls, 0 ≤ z
def Dr (H : Hp) (d l c : Addr) : Prop := ∃ ls cs r t m, DrX H d l c ls cs r t m
theorem DrX.dl {H : Hp} {d l c : Addr} {ls cs : List Int} {r t m : Int} (x : DrX H d l c ls cs r t m) : d ≠ l := ne_of x.dd x.hl (by intro z; cases z)
theorem DrX.dc {H : Hp} {d l c : Addr} {ls cs : List Int} {r t m : Int} (x : DrX H d l c ls cs r t m) : d ≠ c := ne_of x.dd x.hc (by intro z; cases z)
theorem valRest {l c : Addr} {r t m : Int} : valV (drawK l c r t m) kRest = some (.int r) := by rfl
theorem valLarge {l c : Addr} {r t m : Int} : valV (drawK l c r t m) kLarge = some (.ref l) := by rfl
theorem valCells {l c : Addr} {r t m : Int} : valV (drawK l c r t m) kCells = some (.ref c) := by rfl
theorem valTurn {l c : Addr} {r t m : Int} : valV (drawK l c r t m) kTurn = some (.int t) := by rfl
theorem valMix {l c : Addr} {r t m : Int} : valV (drawK l c r t m) kMix = some (.int m) := by rfl
theorem putRest {l c : Addr} {r t m r' : Int} : putK (drawK l c r t m) kRest (.int r') = drawK l c r' t m := by rfl
theorem putTurn {l c : Addr} {r t m r' : Int} : putK (drawK l c r t m) kTurn (.int r') = drawK l c r r' m := by rfl
theorem putMix {l c : Addr} {r t m r' : Int} : putK (drawK l c r t m) kMix (.int r') = drawK l c r t r' := by rfl
section
variable {H H' : Hp} {d l c p : Addr} {ls cs : List Int} {r t m r' : Int} {o : HO} {S : List Addr}
theorem DrX.new (x : DrX H d l c ls cs r t m) (h : H p = none) : DrX (upd H p o) d l c ls cs r t m :=
  ⟨by rw [upd_ne (ne_of_none x.dd h)]; exact x.dd, by rw [upd_ne (ne_of_none x.hl h)]; exact x.hl, by rw [upd_ne (ne_of_none x.hc h)]; exact x.hc, x.ne, x.ll, x.lc, x.mm, x.pr, x.pl⟩
theorem DrX.upd_d (x : DrX H d l c ls cs r t m) {r' t' m' : Int} (h1 : 0 ≤ r') (h2 : 0 ≤ m' ∧ m' < 2147483629) : DrX (upd H d (.dK (drawK l c r' t' m'))) d l c ls cs r' t' m' :=
  ⟨upd_same, by rw [upd_ne x.dl.symm]; exact x.hl, by rw [upd_ne x.dc.symm]; exact x.hc, x.ne, x.ll, x.lc, h2, h1, x.pl⟩
theorem DrX.upd_l (x : DrX H d l c ls cs r t m) {ls' : List Int} (h1 : ls'.length ≤ 100) (h2 : ∀ z ∈ ls', 0 ≤ z) : DrX (upd H l (.lst (ls'.map V.int))) d l c ls' cs r t m :=
  ⟨by rw [upd_ne x.dl]; exact x.dd, upd_same, by rw [upd_ne x.ne.symm]; exact x.hc, x.ne, h1, x.lc, x.mm, x.pr, h2⟩
theorem DrX.keep (x : DrX H d l c ls cs r t m) (k : Kp S H H') (nd : d ∉ S) (nl : l ∉ S) (nc : c ∉ S) : DrX H' d l c ls cs r t m :=
  ⟨k _ _ x.dd nd, k _ _ x.hl nl, k _ _ x.hc nc, x.ne, x.ll, x.lc, x.mm, x.pr, x.pl⟩
theorem Dr.new (x : Dr H d l c) (h : H p = none) : Dr (upd H p o) d l c := let ⟨ls, cs, r, t, m, x⟩ := x; ⟨ls, cs, r, t, m, x.new h⟩
theorem Dr.keep (x : Dr H d l c) (k : Kp S H H') (nd : d ∉ S) (nl : l ∉ S) (nc : c ∉ S) : Dr H' d l c := let ⟨ls, cs, r, t, m, x⟩ := x; ⟨ls, cs, r, t, m, x.keep k nd nl nc⟩
theorem Dr.nes (x : Dr H d l c) (h : H p = none) : p ≠ d ∧ p ≠ l ∧ p ≠ c := let ⟨_, _, _, _, _, x⟩ := x; ⟨(ne_of_none x.dd h).symm, (ne_of_none x.hl h).symm, (ne_of_none x.hc h).symm⟩
theorem Dr.off (x : Dr H d l c) (h : p ≠ d ∧ p ≠ l ∧ p ≠ c) : Dr (upd H p o) d l c := by
  obtain ⟨ls, cs, r, t, m, x⟩ := x
  exact ⟨ls, cs, r, t, m, by rw [upd_ne h.1.symm]; exact x.dd, by rw [upd_ne h.2.1.symm]; exact x.hl, by rw [upd_ne h.2.2.symm]; exact x.hc, x.ne, x.ll, x.lc, x.mm, x.pr, x.pl⟩
theorem off2 (h : p ≠ d ∧ p ≠ l ∧ p ≠ c) : p ∉ [d, l] := not2 h.1 h.2.1
theorem Dr.keep0 (x : Dr H d l c) (k : Kp [] H H') : Dr H' d l c := x.keep k notnil notnil notnil
end
end G69
namespace G69
open PySem PySem.Spec PyProof.Rows L2
/-! ### enumerate over a tuple -/
abbrev tIt (t : Addr) : Obj := { cls := .type "tuple_iterator", data := .fields #[.ref t, .int 0 0] }
abbrev eOb (i : Addr) : Obj := { cls := .type "enumerate", data := .fields #[.none, .bool false, .ref i, rawInt 0, .none, .none] }
set_option maxHeartbeats 1000000 in
theorem meets_enumT (t : Addr) (its : Array Value) :
    Meets (Builtin.«enumerate.__new__» ⟨[.type "enumerate", .ref t], []⟩) (fun _ R s => s.heap.IsTuple t its ∧
      R (.ok (.ret (.ref (s.heap.push (tIt t)).objs.size))) { s with heap := (s.heap.push (tIt t)).push (eOb s.heap.objs.size) }) :=
  .of_wp fun prog w A R s h => by
    obtain ⟨hp, g, d, tk, os⟩ := s
    obtain ⟨h1, h⟩ := h
    have hsub := sub_enumerate
    have q1 : ∀ {A' : Around} {E : Value → Shared → Prop} {Q : Value → Shared → Prop}, Q (.ref hp.objs.size) ⟨hp.push (tIt t), g, d, tk, os⟩ → wpAny (model prog w) A' (pyIter (.ref t)) Q E ⟨hp, g, d, tk, os⟩ :=
      fun q => (begins_tuple t its).iter prog w _ _ ⟨hp, g, d, tk, os⟩ _ h1 q
    wp_walk using q1
    refine wpAny_stack_any fun st => wpAny_pure ?_
    split
    · rename_i c _ _ _ _ _
      cases (c == Value.type "enumerate") <;> (wp_walk using q1; exact ⟨_, rfl, h⟩)
    · wp_walk using q1
      exact ⟨_, rfl, h⟩
theorem call_enumT {prog : Program} {w : World} {A : Around} {E : Value → Shared → Prop} {s : Shared} {t : Addr} {its : Array Value} {Q : Value → Shared → Prop} (hL : s.heap.IsTuple t its)
    (h : ∀ h', IsEnum h' (s.heap.objs.size + 1) s.heap.objs.size 0 .none → h'.IsTupleIter s.heap.objs.size t 0 → (∀ b o, s.heap.get? b = some o → h'.get? b = some o) → Q (.ref (s.heap.objs.size + 1)) { s with heap := h' }) :
    wpAny (model prog w) A (call (.type "enumerate") [.ref t]) Q E s := by
  refine callType_new F.called_enumerate (by decide) (F.typeCall_enumerate_1 _) (F.newCall_enumerate_1 _) (fun obj => F.args_object_init_2 obj _) F.entry_enumerate_new (meets_enumT t its) ⟨hL, ?_⟩
  have hz : (s.heap.push (tIt t)).objs.size = s.heap.objs.size + 1 := Heap.size_push ..
  show _ ∧ _
  rw [hz]
  have he : IsEnum ((s.heap.push (tIt t)).push (eOb s.heap.objs.size)) (s.heap.objs.size + 1) s.heap.objs.size 0 .none := by
    have := Heap.get?_push_size (s.heap.push (tIt t)) (o := eOb s.heap.objs.size) rfl
    rw [hz] at this
    exact this
  exact ⟨⟨_, he, rfl⟩, h _ he ⟨_, Heap.get?_push_of_some _ (Heap.get?_push_size _ rfl), rfl, rfl⟩ fun b o x => Heap.get?_push_of_some _ (Heap.get?_push_of_some _ x)⟩
theorem next_enumT_end {prog : Program} {w : World} {A : Around} {E : Value → Shared → Prop} {s : Shared} {e it a : Addr} {i : Nat} {c : Int} {its : Array Value} {old : Value} {Q : Option Value → Shared → Prop} (hh : A.handled = none)
    (he : IsEnum s.heap e it c old) (hit : s.heap.IsTupleIter it a i) (ht : s.heap.IsTuple a its) (hx : its[i]? = none) (hQ : ∀ h', Heap.ExtBut it s.heap h' → Q none { s with heap := h' }) : wpAny (model prog w) A (pyNext (.ref e)) Q E s := by
  have hT : s.TypeIs (.ref e) "enumerate" := ⟨_, he, rfl⟩
  unfold pyNext
  refine wpAny_bind (wpAny_attempt (wpAny_callSpecial?_slot (name := Str.ofString "__next__") hT F.slot_enumerate_next (wpAny_call_entry F.slot_enumerate_next hT F.entry_enumerate_next ?_ (F.args_enumerate_next_1 _))))
  show wpAny _ _ (field (.ref e) 2 >>= _) _ _ _
  refine wpAny_bind (wpAny_field he rfl (x := .ref it) rfl ?_)
  refine wpAny_bind (wpAny_nextOf_tuple_end hh hit ht hx fun h' y he' hx' => ?_)
  obtain ⟨o, ho, hc⟩ := hx'
  refine wpAny_bind (wpAny_isInstance (T := "StopIteration") (b := true) ⟨o, ho, hc⟩ isSubtype_stop ?_)
  exact wpAny_pure (hQ _ he')
/-- a tuple as it stands, each item in a new pair with its place -/
def IteT (K : PySem.W.Frag) (a : Addr) : It :=
  ⟨fun i H => ∃ (xs : List V) (x : V), SqT K H a xs ∧ xs[i]? = some x, fun i H v H' => ∃ T x, v = .ref T ∧ H T = none ∧ H' = upd H T (.tup [.int (i : Nat), x]) ∧ ∀ xs, SqT K H a xs → xs[i]? = some x, fun i H => ∃ xs : List V, SqT K H a xs ∧ xs.length ≤ i⟩
theorem turn_enumT {P : Program} {w : World} {K : PySem.W.Frag} {elts : List Expr} {kk : Nat} {tpos : Pos} (a e it : Addr) (hai : a ≠ it) (hae : a ≠ e) :
    Turn P w K (.Tuple elts kk tpos) (IteT K a) [e, it] e (fun i h => (∃ old, IsEnum h e it ((i : Nat) : Int) old) ∧ h.IsTupleIter it a i ∧ e ≠ it) where
  mem := by simp
  obj := fun i h st b hb => by
    obtain ⟨⟨old, he⟩, ⟨o, ho, hc, hd⟩, _⟩ := st
    rcases (by simpa using hb : b = e ∨ b = it) with z | z
    · rw [z]; exact ⟨_, he, fun v q => nomatch q⟩
    · rw [z]; exact ⟨o, ho, fun v q => by rw [hd] at q; cases q⟩
  keep := fun i h h' st k => let ⟨⟨old, he⟩, hi, hne⟩ := st; ⟨⟨old, k e (by simp) _ he⟩, hi.at fun o q => k it (by simp) o q, hne⟩
  item := by
    intro X hP hw hK hc i pins s σ H E I hf st hg
    subst hP hw hK
    obtain ⟨⟨old, he⟩, hit, hne⟩ := st
    obtain ⟨xs, x, hq, hx⟩ := hg
    obtain ⟨its, rv, p, hz⟩ := I.tuple hq
    obtain ⟨u, hu, ru⟩ := rv.get hx
    have hel : e < s.heap.objs.size := Heap.lt_size he
    have hil : it < s.heap.objs.size := by obtain ⟨_, q, _⟩ := hit; exact Heap.lt_size q
    have p' : s.heap.IsTuple a its.toArray := p
    have hlt : i < its.toArray.size := by
      rw [List.size_toArray]
      exact (List.getElem?_eq_some_iff.mp hu).1
    refine wpAny_pyNext_enum_itemD (Draws.tuple (A := X.A.in1) (show X.A.in1.handled = none from I.ok.hd hc) it a hai its.toArray) he ⟨hit, p'⟩ hlt hne (not2 hne hae.symm) fun y h' tk hy ho hst hT hsz hk => ?_
    have ey : y = u := by
      have e1 : its.toArray[i]? = some u := by simpa using hu
      exact Option.some.inj (hy.symm.trans e1)
    subst ey
    refine ⟨_, rfl, wpAny_letOwnedTupleGo_enum (s := { s with heap := h', toks := tk + 1 }) ho fun h'' he' sb => ?_⟩
    have hT2 : h''.get? s.heap.objs.size = some { cls := .type "tuple", data := .seq #[.int i tk, y] } := (sb.2 _ (Nat.ne_of_gt hel)).trans hT
    have new : ObjOk X.prog X.w (upd H s.heap.objs.size (.tup [.int (i : Nat), x])) h'' s.heap.objs.size (.tup [.int (i : Nat), x]) :=
      ⟨by show 2 ≤ sizeLine; decide, [.int i tk, y], .cons ⟨_, rfl⟩ (.cons ru .nil), ⟨_, hT2, rfl, _, rfl⟩⟩
    have I1 : Inv X pins σ (upd H s.heap.objs.size (.tup [.int (i : Nat), x])) { s with heap := h'', toks := tk + 1 } :=
      I.turnedNew (ch := [e, it]) (fun b ob hb q => (sb.2 b (fun z => hb (by simp [z]))).trans (hk b ob (fun z => hb (by simp [z])) (fun z => hb (by simp [z])) q)) hf (Nat.le_refl _) new
    refine ⟨.ref s.heap.objs.size, _, I1, rfl, ⟨_, x, rfl, I.hok.fresh (Nat.le_refl _), rfl, fun ys hys => by rw [I.tuple_inj hys hq]; exact hx⟩, ⟨⟨y, ?_⟩, hst.1.at fun o q => (sb.2 it (Ne.symm hne)).trans q, hne⟩, fun b hb => ?_⟩
    · rw [show ((i + 1 : Nat) : Int) = (i : Int) + 1 by omega]
      exact he'
    · have hb' : b < s.heap.objs.size := by
        rcases (by simpa using hb : b = e ∨ b = it) with z | z
        · rw [z]; exact hel
        · rw [z]; exact hil
      rw [upd_ne (Nat.ne_of_lt hb')]
      exact (hf b hb).1
  done := by
    intro X hP hw hK hc i pins s σ H E I hf st hg
    subst hP hw hK
    obtain ⟨⟨old, he⟩, hit, hne⟩ := st
    obtain ⟨xs, hq, hx⟩ := hg
    obtain ⟨its, rv, p, hz⟩ := I.tuple hq
    obtain ⟨f0, f1, f2, f3, f4, f5⟩ := hf it (by simp)
    have hl := rv.length
    exact next_enumT_end (I.ok.hd hc) he hit (show s.heap.IsTuple a its.toArray from p) (by simp; omega) fun h' eb => ⟨rfl, I.turned (t' := s.toks) (fun b o hb q => eb b o hb q) f0 f1 f3 f4 f5⟩
  self := fun A i s Q E st h => let ⟨⟨_, he⟩, _⟩ := st; wpAny_pyIter_enum he h
def iEnumT (K : PySem.W.Frag) (ta : TA) : TI := fun σ H R => ta σ H fun vs H1 => ∃ a xs, vs = [.ref a] ∧ SqT K H1 a xs ∧ R (IteT K a) H1
theorem pi_enumT {X : Cx} {e : Expr} {ta : TA} {p pos tpos : Pos} {elts : List Expr} {kk : Nat} (hg : Gl X "enumerate") (hm : X.mg "enumerate" = none) (ha : PA X [e] ta) (hs : starEach [e] X.env = [(false, eval e X.env)] := by rfl) :
    PI X (.Tuple elts kk tpos) (.Call (.Name "enumerate" p) [e] [] pos) (iEnumT X.K ta) := by
  refine ⟨fun pins s σ H R I h => ?_⟩
  refine Call_ (ld_blt I hg hm boot_enumerate (PyProof.Rows.callWith_type1 (thn (ha.run pos pins s σ H _ I h) fun us s1 ⟨vs, H1, I1, r1, q1⟩ => ?_) hs rfl))
  obtain ⟨a, xs, ex, hq, q⟩ := q1
  subst ex
  cases r1 with
  | cons r rr =>
    cases rr
    cases r
    obtain ⟨its, rv, p', hz⟩ := I1.tuple hq
    have ht : s1.heap.IsTuple a its.toArray := p'
    have hal : a < s1.heap.objs.size := by
      obtain ⟨_, q, _⟩ := ht
      exact Heap.lt_size q
    refine call_enumT ht fun h' he hit hk => wpAny_pyIter_enum he ?_
    have I2 : Inv X pins σ H1 { s1 with heap := h' } := I1.kept (t' := s1.toks) hk
    refine ⟨s1.heap.objs.size + 1, [s1.heap.objs.size + 1, s1.heap.objs.size], _, _, H1, rfl, I2, turn_enumT a (s1.heap.objs.size + 1) s1.heap.objs.size (Nat.ne_of_lt hal) (Nat.ne_of_lt (Nat.lt_succ_of_lt hal)), ⟨⟨.none, he⟩, hit, Nat.succ_ne_self _⟩, fun b hb => ?_, q⟩
    have hle : s1.heap.objs.size ≤ b := by
      rcases (by simpa using hb : b = s1.heap.objs.size + 1 ∨ b = s1.heap.objs.size) with z | z
      · rw [z]; exact Nat.le_add_right _ _
      · rw [z]; exact Nat.le_refl _
    exact I1.fpOk hle (I1.hok.fresh hle)
theorem walk_enumT {K : PySem.W.Frag} {a : Addr} {xs : List V} : Walk (IteT K a) xs.length (fun H => SqT K H a xs) (YPair (fun i => some (.int (i : Nat))) (fun i => xs[i]?)) := by
  refine ⟨fun i _ hi q => ⟨xs, xs[i], q, List.getElem?_eq_getElem hi⟩, fun _ q => ⟨xs, q, Nat.le_refl _⟩, fun i H v H' _ q y => ?_⟩
  obtain ⟨T, x, h1, h2, h3, h4⟩ := y
  exact ⟨T, .int (i : Nat), x, h1, h2, h3, rfl, h4 xs q⟩
/-- enumerate of a list or a tuple -/
def iEnumS (K : PySem.W.Frag) (ta : TA) : TI := fun σ H R => ta σ H fun vs H1 => ∃ a xs, vs = [.ref a] ∧ ((SqL K H1 a xs ∧ R (Ite K a) H1) ∨ (SqT K H1 a xs ∧ R (IteT K a) H1))
theorem pi_enumS {X : Cx} {e : Expr} {ta : TA} {p pos tpos : Pos} {elts : List Expr} {kk : Nat} (hg : Gl X "enumerate") (hm : X.mg "enumerate" = none) (ha : PA X [e] ta) (hs : starEach [e] X.env = [(false, eval e X.env)] := by rfl) :
    PI X (.Tuple elts kk tpos) (.Call (.Name "enumerate" p) [e] [] pos) (iEnumS X.K ta) := by
  refine ⟨fun pins s σ H R I h => ?_⟩
  refine Call_ (ld_blt I hg hm boot_enumerate (PyProof.Rows.callWith_type1 (thn (ha.run pos pins s σ H _ I h) fun us s1 ⟨vs, H1, I1, r1, q1⟩ => ?_) hs rfl))
  obtain ⟨a, xs, ex, q⟩ := q1
  subst ex
  cases r1 with
  | cons r rr =>
    cases rr
    cases r
    have hin : ∀ b ∈ [s1.heap.objs.size + 1, s1.heap.objs.size], s1.heap.objs.size ≤ b := fun b hb => by
      rcases (by simpa using hb : b = s1.heap.objs.size + 1 ∨ b = s1.heap.objs.size) with z | z
      · rw [z]; exact Nat.le_add_right _ _
      · rw [z]; exact Nat.le_refl _
    rcases q with ⟨hq, q⟩ | ⟨hq, q⟩
    · obtain ⟨its, rv, p', hz⟩ := I1.list hq
      refine call_enumerate_list p'.isList fun h' he hit hsz hk => wpAny_pyIter_enum he ?_
      have I2 : Inv X pins σ H1 { s1 with heap := h' } := I1.kept (t' := s1.toks) hk
      exact ⟨s1.heap.objs.size + 1, [s1.heap.objs.size + 1, s1.heap.objs.size], _, _, H1, rfl, I2, turn_enum a (s1.heap.objs.size + 1) s1.heap.objs.size, ⟨⟨.none, he⟩, hit, Nat.succ_ne_self _⟩, fun b hb => I1.fpOk (hin b hb) (I1.hok.fresh (hin b hb)), q⟩
    · obtain ⟨its, rv, p', hz⟩ := I1.tuple hq
      have ht : s1.heap.IsTuple a its.toArray := p'
      have hal : a < s1.heap.objs.size := by
        obtain ⟨_, q, _⟩ := ht
        exact Heap.lt_size q
      refine call_enumT ht fun h' he hit hk => wpAny_pyIter_enum he ?_
      have I2 : Inv X pins σ H1 { s1 with heap := h' } := I1.kept (t' := s1.toks) hk
      exact ⟨s1.heap.objs.size + 1, [s1.heap.objs.size + 1, s1.heap.objs.size], _, _, H1, rfl, I2, turn_enumT a (s1.heap.objs.size + 1) s1.heap.objs.size (Nat.ne_of_lt hal) (Nat.ne_of_lt (Nat.lt_succ_of_lt hal)), ⟨⟨.none, he⟩, hit, Nat.succ_ne_self _⟩, fun b hb => I1.fpOk (hin b hb) (I1.hok.fresh (hin b hb)), q⟩
end G69
namespace G69
open PySem PySem.Spec PyProof.Rows L2
/-- a comprehension without a test -/
theorem yes1 {σ : L2.St} {H : Hp} {A B : Hp → Prop} (h : A H) : tYes σ H (fun b H3 => if b = true then A H3 else B H3) := by
  show if true = true then A H else B H
  rw [if_pos rfl]
  exact h
section
variable {X : Cx}
/-! ### own rules of the layer -/
theorem valsSigns {z : Str} {acc : Array Value} (h : ItemsOf (SignAt z) acc z.cps.size) : Vals (z.cps.toList.map fun c => V.str ⟨#[c]⟩) acc.toList := by
  obtain ⟨hl, hi⟩ := h
  have gen : ∀ (cs : List Nat) (us : List Value), cs.length = us.length → (∀ (i : Nat) (u : Value), us[i]? = some u → ∃ c t, cs[i]? = some c ∧ u = Value.str ⟨#[c]⟩ t) → Vals (cs.map fun c => V.str ⟨#[c]⟩) us := by
    intro cs
    induction cs with
    | nil =>
      intro us hlen _
      cases us with
      | nil => exact .nil
      | cons u r => cases hlen
    | cons c r ih =>
      intro us hlen hall
      cases us with
      | nil => cases hlen
      | cons u us =>
        obtain ⟨c', t, e1, e2⟩ := hall 0 u rfl
        have e3 : c = c' := Option.some.inj e1
        subst e3
        exact .cons ⟨t, e2⟩ (ih us (Nat.succ.inj hlen) fun i v hv => hall (i + 1) v hv)
  refine gen _ _ ?_ fun i u hu => ?_
  · rw [Array.length_toList, Array.length_toList, hl]
  · obtain ⟨c, t, e1, e2⟩ := hi i u (by rw [← Array.getElem?_toList]; exact hu)
    exact ⟨c, t, by rw [Array.getElem?_toList]; exact e1, e2⟩
/-- list(text) -/
theorem call_listS (hc : X.calm = true) : CallR X (.type "list") (fun xs H Q => ∃ z : Str, xs = [.str z] ∧ z.length ≤ sizeLine ∧ ∀ l, H l = none → Q (.ref l) (upd H l (.lst (z.cps.toList.map fun c => V.str ⟨#[c]⟩)))) := by
  intro pins s σ H xs us Q I r h
  obtain ⟨z, rfl, hz, q⟩ := h
  obtain ⟨u, rfl, ⟨t, rfl⟩⟩ := vals1 r
  refine call_list_str (I.ok.hd hc) z t (fun h' tk acc' c' kp e it => ?_) hz
  have hr := valsSigns it
  refine ⟨.ref s.heap.objs.size, _, I.laid (t' := tk) kp (Nat.le_refl _) (show ObjOk X.prog X.w _ h' _ (.lst _) from ⟨?_, acc'.toList, c', hr, ?_⟩), rfl, q _ (I.hok.fresh (Nat.le_refl _))⟩
  · rw [List.length_map, Array.length_toList]
    exact hz
  · rw [Array.toArray_toList]
    exact e
/-- the text read backwards -/
def revS (z : Str) : Str := ⟨z.cps.toList.reverse.toArray⟩
theorem revS_list (z : Str) : (revS z).cps.toList = z.cps.toList.reverse := rfl
theorem revS_eq (z : Str) (u : Tok) : Txt.sliceBy z none none (-1, u) = revS z := by
  apply ext_toList
  rw [step_rev_list, revS_list]
  apply List.ext_getElem?
  intro i
  rw [List.getElem?_map]
  have hz : z.length = z.cps.toList.length := by first | rfl | exact (Array.length_toList).symm
  by_cases hi : i < z.length
  · rw [List.getElem?_range hi, List.getElem?_reverse (by omega)]
    show some (z.cps.getD (z.length - 1 - i) 0) = _
    rw [← hz, Array.getElem?_toList, Array.getD_eq_getD_getElem?, Array.getElem?_eq_getElem (show z.length - 1 - i < z.cps.size by show _ < z.length; omega)]
    rfl
  · rw [List.getElem?_eq_none (by rw [List.length_range]; omega), List.getElem?_eq_none (by rw [List.length_reverse]; omega)]
    rfl
theorem revS_length (z : Str) : (revS z).length = z.length := by
  show (z.cps.toList.reverse.toArray).size = z.cps.size
  rw [List.size_toArray, List.length_reverse, Array.length_toList]
def tRevS (te : TE) : TE := fun σ H Q => te σ H fun x H1 => ∃ z : Str, x = .str z ∧ z.length ≤ sizeLine ∧ Q (.str (revS z)) H1
/-- text[::-1] -/
theorem pe_revS {e : Expr} {te : TE} {k : Nat} {p1 p2 p3 pos : Pos} (he : PE X e te) :
    PE X (.Subscript e (.Slice none none (some (.UnaryOp .USub (.Constant (.int 1) k p1) p2)) p3) pos) (tRevS te) := by
  refine ⟨fun pins s σ H Q I h => ?_⟩
  refine Subscript_ (thn (he.run pins s σ H _ I h) fun v s1 ⟨x, H1, I1, r1, z, ex, hz, q⟩ => ?_)
  subst ex
  obtain ⟨t, rfl⟩ := r1
  have hst : PO X (some (.UnaryOp .USub (.Constant (.int 1) k p1) p2)) (tPart (tUn (rU fun i => .int (-i)) (tC (.int 1)))) := po_some (pe_un un_neg pe_int)
  refine wpAny_Slice (thn (po_none.run pins s1 σ H1 (fun o H2 => o = none ∧ H2 = H1) I1 ⟨rfl, rfl⟩) fun vl s2 ⟨l, H2, I2, pl, el, e2⟩ => ?_)
  subst el
  subst e2
  refine thn (po_none.run pins s2 σ H2 (fun o H3 => o = none ∧ H3 = H2) I2 ⟨rfl, rfl⟩) fun vu s3 ⟨u, H3, I3, pu, eu, e3⟩ => ?_
  subst eu
  subst e3
  refine thn (hst.run pins s3 σ H3 (fun o H4 => o = some (-1) ∧ H4 = H3) I3 ⟨1, rfl, -1, rfl, rfl, rfl⟩) fun vs s4 ⟨o, H4, I4, ps, eo, e4⟩ => ?_
  subst eo
  subst e4
  obtain ⟨l', rfl, hl'⟩ := IsPart.raw pl
  obtain ⟨u', rfl, hu'⟩ := IsPart.raw pu
  obtain ⟨s', rfl, hs'⟩ := IsPart.raw ps
  obtain rfl : l' = none := by cases l' with
    | none => rfl
    | some x => cases hl'
  obtain rfl : u' = none := by cases u' with
    | none => rfl
    | some x => cases hu'
  obtain ⟨⟨i, tk⟩, rfl⟩ : ∃ y, s' = some y := by cases s' with
    | none => cases hs'
    | some x => exact ⟨x, rfl⟩
  obtain rfl : i = -1 := Option.some.inj hs'
  have I5 : Inv X pins σ H4 { s4 with heap := s4.heap.push { cls := .type "slice", data := .fields #[partValue none, partValue none, partValue (some (-1, tk))] } } := I4.kept (t' := s4.toks) fun b ob q => Heap.get?_push_of_some _ q
  refine tail_any (ops := [.str z t, .ref s4.heap.objs.size]) (typeIs_str _ z t) (F.slot_str_getitem.lookup) ?_ (by with_unfolding_all rfl)
  refine wpAny_getItem_str_slice (l := none) (u := none) (st := some (-1, tk)) ⟨_, Heap.get?_push_size _ rfl, rfl, rfl⟩ rfl ?_
  have hm : sliceMade z t none none (some (-1, tk)) = Made.str (Txt.sliceBy z none none (-1, tk)) := by rfl
  rw [hm, revS_eq]
  exact ⟨by rw [revS_length]; exact hz, .str _, H4, I5.tok _, ⟨_, rfl⟩, q⟩
/-! in a comprehension's block: the written part by its own name -/
theorem ix_listK {K : PySem.W.Frag} (h : X.K = K) : IxR X (rIxL K) := by
  subst h
  exact ix_list
theorem ix_tupK {K : PySem.W.Frag} (h : X.K = K) : IxR X (rIxT K) := by
  subst h
  exact ix_tup
theorem pe_bmK {K : PySem.W.Frag} {T : String} {name : Str} {id : String} {r : V → List V → Hp → VK → Prop} {o e : Expr} {es : List Expr} {apos cpos : Pos} {to : TE} {t : TA} (hK : X.K = K) (pa : PlainAttrs T) (slot : Slot T name id) (hty : typeOf (.builtin id) = pure (.type "method_descriptor"))
    (hm : MtR X id r) (ho : PE X o to) (ha : PA X (e :: es) t) (hbase : attributeBase o name X.env (eval o X.env) = eval o X.env := by rfl)
    (hfew : ((backTo cpos (starEach (e :: es) X.env)).all (fun x => !x.1) && (backToKw cpos (keywordEach [] X.env)).all (fun x => x.1.isSome) && decide ((e :: es).length + ([] : List Keyword).length + (if ([] : List Keyword).isEmpty then 0 else 1) < 30)) = true := by rfl)
    (hline : (apos.endLine == cpos.line) = true := by rfl) (hs : starEach (e :: es) X.env = (false, eval e X.env) :: starEach es X.env := by rfl) (hplain : (backTo cpos (starEach es X.env)).any (·.1) = false := by rfl) :
    PE X (.Call (.Attribute o name apos) (e :: es) [] cpos) (tBM K T r to t) := by
  subst hK
  exact pe_bm pa slot hty hm ho ha hbase hfew hline hs hplain
end
end G69
namespace G69
open PySem PySem.Spec PyProof.Rows L2
section
variable {P : Program} {w : World} {K : PySem.W.Frag} {mg : Str → Option Value} {base : Heap}
/-! ### data: lists of ints -/
theorem dpInts {H : Hp} : ∀ ns : List Int, DpAll K H (ns.map V.int) (ns.map PyData.int)
  | [] => .nil
  | n :: r => .cons (.int n) (dpInts r)
theorem layInts : ∀ ns : List Int, PyData.canLayAll0 (ns.map PyData.int) = true
  | [] => by simp only [List.map_nil, PyData.canLayAll0]
  | n :: r => by simp only [List.map_cons, PyData.canLayAll0, PyData.canLay0, layInts r, Bool.and_self]
theorem depthInts : ∀ ns : List Int, PyData.depthAll (ns.map PyData.int) = 0
  | [] => by simp only [List.map_nil, PyData.depthAll]
  | n :: r => by simp only [List.map_cons, PyData.depthAll, PyData.depth, depthInts r, Nat.max_self]
theorem shapedInts (ns : List Int) : SeqAt.shaped (.list (ns.map PyData.int)) = true := by
  unfold SeqAt.shaped
  simp only [PyData.canLay0, layInts, PyData.depth, depthInts]
  decide
theorem eqvNil (ns : List Int) : PyData.eqv (.list (ns.map PyData.int)) (.list []) = ns.isEmpty := by
  cases ns with
  | nil => simp only [List.map_nil, PyData.eqv, PyData.eqvAll, List.isEmpty_nil]
  | cons n r => simp only [List.map_cons, PyData.eqv, PyData.eqvAll, List.isEmpty_cons]
theorem seq0 (x : Int) (xs : List Int) : seqIndex? 0 (List.map V.int (x :: xs)).length = some 0 := by
  rw [List.length_map, List.length_cons]
  have h : (0 : Int) < ((xs.length + 1 : Nat) : Int) := by omega
  simp [seqIndex?, h]
/-! ### _law_take -/
abbrev sTake : Stmt := topS 22
theorem scTake : FnScope ["_law_draw", "_law_size", "_law_found", "_law_cell"] ["_law_draw", "_law_size"] (defScope sTake) := ⟨rfl, rfl, rfl, by decide +kernel, rfl, by decide +kernel, by decide +kernel⟩
def spTake : Sp := fun vs H Q _ => ∃ (d l c : Addr) (n : Int), vs = [.ref d, .int n] ∧ Dr H d l c ∧ 0 < n ∧ n < 1073741824 ∧
  ∀ (r : Int) (H' : Hp), 0 ≤ r → r < n → Dr H' d l c → Kp [d, l] H H' → Q (.int r) H'
set_option maxHeartbeats 1000000 in
theorem ok_take {f : Addr} {fd : FuncData} {k : Nat} (F : Fun K "_law_take" "_law_take" sTake f fd) (mI : mg "int" = none) (mD : mg "divmod" = none) :
    FnOk P w K mg base CX0 (k + 1) f fd ["_law_draw", "_law_size"] spTake := by
  refine F.ok scTake (fun vs H Q E h => ?_) (fun cdv A outer s H vs Q E hr h => ?_)
  · obtain ⟨d, l, c, n, rfl, _⟩ := h
    rfl
  · obtain ⟨d, l, c, n, rfl, ⟨ls, cs, r, t, m, D⟩, hn0, hn1, q⟩ := h
    have hu := hu_of hr
    refine ⟨_, C8.pss_cut (ps_if (PW.pt (pw_and (pt_cmpR op_eq (pe_dget hu (pv 0) pe_str (fun _ _ => rfl)) pe_int (nomark _))
          (pw_and1 (pt_cmpR (op_neD hr.units) (pe_dget hu (pv 0) pe_str (fun _ _ => rfl)) (pe_lst pa_nil) (nomark _)))))
        (pss_one (ps_dput hu (pv 0) pe_str (pe_bm PySem.F.plainAttrs_list PySem.F.slot_list_pop PySem.F.type_list_pop mt_popAt (pe_dget hu (pv 0) pe_str (fun _ _ => rfl)) (pa_cons pe_int pa_nil)) rfl))
        (pss_one (ps_if (pt_cmpR op_eq (pe_dget hu (pv 0) pe_str (fun _ _ => rfl)) pe_int (nomark _))
          (pss_cons (ps_dput hu (pv 0) pe_str (pe_op op_add (pe_dget hu (pv 0) pe_str (fun _ _ => rfl)) pe_int) rfl)
          (pss_cons (ps_for PassesOwn.never rfl (pi_list (pe_op op_cat (pe_lst (pa_cons (pe_dget hu (pv 0) pe_str (fun _ _ => rfl)) pa_nil)) (pe_dget hu (pv 0) pe_str (fun _ _ => rfl))))
              (pg_name (i := 3) scTake.nd rfl (.inl rfl))
              (pss_one (ps_dput hu (pv 0) pe_str (pe_op op_mod (pe_callTy call_int1 (by rfl) mI (by decide +kernel) (pa_cons (pe_op op_add (pe_op op_add
                (pe_op op_mul (pe_dget hu (pv 0) pe_str (fun _ _ => rfl)) pe_int) (pe_op op_mul (pv 3) pe_int)) pe_int) pa_nil)) pe_int) rfl)))
          (pss_one (ps_dput hu (pv 0) pe_str (pe_op op_mod (pe_callTy call_int1 (by rfl) mI (by decide +kernel) (pa_cons (pe_op op_pow (pe_dget hu (pv 0) pe_str (fun _ _ => rfl)) pe_int) pa_nil)) pe_int) rfl))))
          pss_nil)))
      (pss_cons (ps_asg (pe_callB call_divmod (by rfl) mD (by decide +kernel) (pa_cons (pe_dget hu (pv 0) pe_str (fun _ _ => rfl)) (pa_cons (pv 1) pa_nil)))
          (pg_tup rfl (pgs_cons (pg_sub (pv 0) pe_str (set_dict hu)) (pgs_cons (pg_name (i := 2) scTake.nd rfl (.inl rfl)) pgs_nil))))
        (pss_one (ps_ret (pv 2)))), ?_⟩
    refine ⟨fun σ H2 => ∃ y ls' r' t' m', σ = [some (.ref d), some (.int n), none, y] ∧ DrX H2 d l c ls' cs r' t' m' ∧ Kp [d, l] H H2, ?_, ?_⟩
    · -- rest == 0 and large != []
      refine ⟨_, rfl, d, .int r, rfl, DGet.k (k := kRest) D.dd, rfl, _, rfl, ite2 (fun e => ?_) (fun e => ?_)⟩
      · -- the way with rest = 0
        refine ⟨_, rfl, d, .ref l, rfl, DGet.k (k := kLarge) D.dd, by decide, fun p hp => ?_⟩
        have D1 : DrX (upd H p (.lst [])) d l c ls cs r t m := D.new hp
        have k1 : Kp [d, l] H (upd H p (.lst [])) := Kp.new hp
        refine ⟨_, _, .lst (.inl (.inl D1.hl)) (dpInts ls), .lst (.inl (.inl upd_same)) .nil, shapedInts ls, by decide +kernel, _, rfl, ?_⟩
        rw [eqvNil]
        cases ls with
        | cons x xs =>
          refine iteT ?_
          refine ⟨_, rfl, d, .ref l, rfl, DGet.k (k := kLarge) D1.dd, .inl ⟨rfl, _, .inl (.inl D1.hl)⟩, l, _, 0, 0, .int x, rfl, rfl, D1.hl, by decide, by decide, seq0 _ _, rfl, ?_⟩
          have D2 : DrX (upd (upd H p (.lst [])) l (.lst (xs.map V.int))) d l c xs cs r t m :=
            D1.upd_l (by have := D.ll; rw [List.length_cons] at this; omega) (fun z hz => D.pl z (List.mem_cons_of_mem _ hz))
          refine ⟨_, rfl, d, _, rfl, DPut.k (k := kRest) D2.dd (by show 5 < sizeLine; decide), ?_⟩
          exact ⟨none, xs, x, t, m, rfl, D2.upd_d (D.pl x List.mem_cons_self) D.mm, k1.trans ((Kp.put (by simp)).trans (Kp.put (by simp)))⟩
        | nil =>
          refine iteF ?_
          refine ⟨_, rfl, d, .int r, rfl, DGet.k (k := kRest) D1.dd, rfl, _, rfl, ?_⟩
          rw [e]
          refine iteT ?_
          refine ⟨_, rfl, d, .int t, rfl, DGet.k (k := kTurn) D1.dd, _, _, rfl, rfl, _, rfl, d, _, rfl, DPut.k (k := kTurn) D1.dd (by show 5 < sizeLine; decide), ?_⟩
          have D2 : DrX (upd (upd H p (.lst [])) d (.dK (drawK l c r (t + 1) m))) d l c [] cs r (t + 1) m := D1.upd_d D.pr D.mm
          have k2 : Kp [d, l] H (upd (upd H p (.lst [])) d (.dK (drawK l c r (t + 1) m))) := k1.trans (Kp.put (by simp))
          -- the list that is walked
          refine ⟨_, rfl, d, .int (t + 1), rfl, DGet.k (k := kTurn) D2.dd, szle (by show 1 ≤ 1000000; decide), fun p1 hp1 => ?_⟩
          have D3 := D2.new (o := .lst [.int (t + 1)]) hp1
          have k3 := k2.trans (Kp.new (o := .lst [.int (t + 1)]) hp1)
          refine ⟨_, rfl, d, .ref c, rfl, DGet.k (k := kCells) D3.dd, p1, c, _, _, rfl, rfl, upd_same, D3.hc, ?_, fun p2 hp2 => ?_⟩
          · have := D.lc
            exact szle (by rw [List.length_map]; show 1 + cs.length ≤ 1000000; omega)
          · have D4 := D3.new (o := .lst ([V.int (t + 1)] ++ cs.map V.int)) hp2
            have k4 := k3.trans (Kp.new (o := .lst ([V.int (t + 1)] ++ cs.map V.int)) hp2)
            have nd : p2 ≠ d := (ne_of_none D3.dd hp2).symm
            have e2 : ([V.int (t + 1)] ++ cs.map V.int) = ((t + 1) :: cs).map V.int := rfl
            refine ⟨p2, rfl, ⟨_, .inl (.inl upd_same)⟩, for_list (K := K) (a := p2) (xs := ((t + 1) :: cs).map V.int)
              (fun i σ H5 => ∃ (y : Option V) (m' : Int), σ = [some (.ref d), some (.int n), none, y] ∧ DrX H5 d l c [] cs r (t + 1) m' ∧ Kp [d, l] H H5 ∧ H5 p2 = some (.lst (((t + 1) :: cs).map V.int)))
              ⟨none, m, rfl, D4, k4, upd_same⟩ (fun i σ H5 _ h5 => ?_) ?_ ?_⟩
            · obtain ⟨y, m', rfl, D5, k5, e5⟩ := h5
              exact .inl (.inl e5)
            · rintro i x σ H5 hi ⟨y, m', rfl, D5, k5, e5⟩
              obtain ⟨z, rfl⟩ : ∃ z, x = V.int z := by
                rw [List.getElem?_map] at hi
                cases e : ((t + 1) :: cs)[i]? with
                | none => rw [e] at hi; cases hi
                | some z => rw [e] at hi; exact ⟨z, (Option.some.inj hi).symm⟩
              refine ⟨_, rfl, d, .int m', rfl, DGet.k (k := kMix) D5.dd, _, _, rfl, rfl, .inr ⟨by decide, by decide⟩, _, rfl, _, _, rfl, rfl, .inr ⟨by decide, by decide⟩, _, _, rfl, rfl, _, _, rfl, rfl, .inl ⟨_, rfl, ?_⟩⟩
              refine ⟨_, _, rfl, rfl, (by show (0 : Int) < 2147483629; decide), _, rfl, d, _, rfl, DPut.k (k := kMix) D5.dd (by show 5 < sizeLine; decide), ?_⟩
              exact ⟨_, _, rfl, D5.upd_d D5.pr ⟨Int.emod_nonneg _ (by decide), Int.emod_lt_of_pos _ (by decide)⟩, k5.trans (Kp.put (by simp)), by rw [upd_ne nd]; exact e5⟩
            · rintro σ H5 ⟨y, m', rfl, D5, k5, e5⟩
              refine ⟨_, rfl, d, .int m', rfl, DGet.k (k := kMix) D5.dd, _, _, rfl, rfl, ⟨by decide, by decide, ?_⟩, .inl ⟨_, rfl, ?_⟩⟩
              · have := D5.mm
                omega
              · refine ⟨_, _, rfl, rfl, (by show (0 : Int) < 2305843009213693951; decide), _, rfl, d, _, rfl, DPut.k (k := kRest) D5.dd (by show 5 < sizeLine; decide), ?_⟩
                exact ⟨y, [], _, t + 1, m', rfl, D5.upd_d (Int.emod_nonneg _ (by decide)) D5.mm, k5.trans (Kp.put (by simp))⟩
      · refine iteF ?_
        refine ⟨_, rfl, d, .int r, rfl, DGet.k (k := kRest) D.dd, rfl, _, rfl, ?_⟩
        rw [eq_false_of_ne_true e]
        refine iteF ?_
        exact ⟨none, ls, r, t, m, rfl, D, Kp.rfl'⟩
    · rintro σ' H2 ⟨y, ls', r', t', m', rfl, D2, k2⟩
      have hp2 : ∀ p, H2 p = none → p ≠ d := fun p hp => (ne_of_none D2.dd hp).symm
      refine ⟨_, rfl, d, .int r', rfl, DGet.k (k := kRest) D2.dd, _, rfl, r', n, rfl, ⟨hn0, hn1⟩, fun p hp => ?_⟩
      refine ⟨p, [.int (r' / n), .int (r' % n)], rfl, .inl (.inl upd_same), rfl, _, [.int (r' % n)], rfl, .ref d, rfl, d, _, rfl, DPut.k (k := kRest) (D2.new hp).dd (by show 5 < sizeLine; decide), _, [], rfl, rfl, _, rfl, ?_⟩
      exact q (r' % n) _ (Int.emod_nonneg _ (by omega)) (Int.emod_lt_of_pos _ hn0) ⟨_, _, _, _, _, (D2.new hp).upd_d (Int.ediv_nonneg D2.pr (by omega)) D2.mm⟩ (k2.trans ((Kp.new hp).trans (Kp.put (by simp))))
end
end G69
namespace G69
open PySem PySem.Spec PyProof.Rows L2
section
variable {P : Program} {w : World} {K : PySem.W.Frag} {mg : Str → Option Value} {base : Heap}
/-! ### _law_begin -/
abbrev sBegin : Stmt := topS 21
abbrev nBegin : List Str := ["_law_script", "_law_large", "_law_cell"]
theorem scBegin : FnScope nBegin ["_law_script"] (defScope sBegin) := ⟨rfl, rfl, rfl, by decide +kernel, rfl, by decide +kernel, by decide +kernel⟩
def spBegin (K : PySem.W.Frag) : Sp := fun vs H Q _ => ∃ (a : Addr) (ns : List Int), vs = [.ref a] ∧ SqL K H a (ns.map V.int) ∧ ns.length ≤ 63 ∧
  ∀ (d l c : Addr) (H' : Hp), H d = none → H l = none → H c = none → Dr H' d l c → Kp [] H H' → Q (.ref d) H'
theorem ok_begin {f : Addr} {fd : FuncData} {k : Nat} (F : Fun K "_law_begin" "_law_begin" sBegin f fd) (mA : mg "abs" = none) (mL : mg "list" = none) :
    FnOk P w K mg base CX0 (k + 1) f fd ["_law_script"] (spBegin K) := by
  refine F.ok scBegin (fun vs H Q E h => ?_) (fun cdv A outer s H vs Q E hr h => ?_)
  · obtain ⟨a, ns, rfl, _⟩ := h
    rfl
  · obtain ⟨a, ns, rfl, hS, hlen, q⟩ := h
    have hu := hu_of hr
    refine ⟨_, pss_cons (ps_setLc (i := 1) (own := [("_law_cell", 2)]) (g := gName 2) rfl scBegin.nd rfl rfl (sw_true rfl rfl rfl (by decide +kernel)) (pi_list (pv 0))
          (blkOk_by (N := nBegin) (sc := defScope sBegin) (by decide +kernel)) (fun _ _ _ _ _ => pg_name (i := 2) scBegin.nd rfl (Or.inl rfl))
          (fun _ _ _ _ _ => pts_one (pt_cmpR op_ge (pe_callB call_abs (by rfl) mA (by decide +kernel) (pa_cons (pv 2) pa_nil)) (pe_op op_pow pe_int pe_int) (nomark _)))
          (fun _ _ _ _ _ => pe_callB call_abs (by rfl) mA (by decide +kernel) (pa_cons (pv 2) pa_nil)))
      (pss_one (ps_ret (pe_disp (pps_cons pe_str (pv 1) (pps_cons pe_str (pe_callTy call_list_of (by rfl) mL (by decide +kernel) (pa_cons (pv 0) pa_nil))
        (pps_cons pe_str pe_int (pps_cons pe_str pe_int (pps_cons pe_str pe_int pps_nil))))) (by rfl) (by rfl) (fun z => by cases z) (by decide)))), ?_⟩
    refine ⟨.ref a, rfl, a, rfl, ⟨_, hS⟩, fun D hD => lc_list (K := K) (a := a) (xs := ns.map V.int)
      (fun i H2 => ∃ ls : List Int, H2 D = some (.lst (ls.map V.int)) ∧ ls.length ≤ i ∧ (∀ z ∈ ls, 0 ≤ z) ∧ Kp [] H H2)
      ⟨[], upd_same, Nat.le_refl _, (fun z hz => nomatch hz), Kp.new hD⟩ ?_ ?_ ?_⟩
    · rintro i H2 _ ⟨ls, e, _, _, k2⟩
      exact k2.l notnil hS
    · rintro i x H2 hi ⟨ls, e, hl, hp, k2⟩
      obtain ⟨z, hz, rfl⟩ := intAt hi
      have hil : i < ns.length := (List.getElem?_eq_some_iff.mp hz).1
      refine ⟨rfl, _, rfl, z, rfl, _, _, rfl, rfl, ⟨by decide, by decide, by decide⟩, _, _, rfl, rfl, _, rfl, ite2 (fun e1 => ?_) (fun e1 => ?_)⟩
      · refine ⟨_, rfl, z, rfl, _, e, szlt (by rw [List.length_map]; omega), ls ++ [if z < 0 then -z else z], ?_, ?_, ?_, k2.mut hD⟩
        · rw [upd_same, List.map_append]
          rfl
        · rw [List.length_append]
          show ls.length + 1 ≤ i + 1
          omega
        · intro y hy
          rcases List.mem_append.mp hy with h | h
          · exact hp y h
          · rw [List.mem_singleton] at h
            subst h
            split <;> omega
      · exact ⟨ls, e, by omega, hp, k2⟩
    · rintro H2 ⟨ls, e, hl, hp, k2⟩
      rw [List.length_map] at hl
      refine fun d hd => ?_
      have k3 : Kp [] H (upd H2 d (.dK [])) := k2.trans (Kp.new hd)
      refine ⟨_, rfl, _, rfl, a, _, rfl, .inl (k3.l notnil hS), fun c hc => ?_⟩
      have hdc : d ≠ c := ne_of_none upd_same hc
      have hDd : D ≠ d := ne_of_none e hd
      have hc2 : H2 c = none := by rw [upd_ne hdc.symm] at hc; exact hc
      have hDc : D ≠ c := ne_of_none e hc2
      refine ⟨by rw [upd_ne hdc]; exact upd_same, [(kLarge, .ref D), (kCells, .ref c), (kRest, .int 0), (kTurn, .int 0), (kMix, .int 7)], rfl, (by show 5 ≤ 15; decide), ?_⟩
      refine q d D c _ (k2.free hd) hD (k2.free hc2) ⟨ls, ns, 0, 0, 7, upd_same, ?_, ?_, hDc, by omega, by omega, ⟨by decide, by decide⟩, by decide, hp⟩ ((k3.trans (Kp.new hc)).mut (k2.free hd))
      · rw [upd_ne hDd, upd_ne hDc, upd_ne hDd]
        exact e
      · rw [upd_ne hdc.symm, upd_same]
end
end G69
namespace G69
open PySem PySem.Spec PyProof.Rows L2
/-- the built-in names are not the module's -/
structure Bt (mg : Str → Option Value) : Prop where
  abs : mg "abs" = none
  all : mg "all" = none
  any : mg "any" = none
  bool : mg "bool" = none
  dict : mg "dict" = none
  divmod : mg "divmod" = none
  enumerate : mg "enumerate" = none
  int : mg "int" = none
  isinst : mg "isinstance" = none
  len : mg "len" = none
  list : mg "list" = none
  max : mg "max" = none
  min : mg "min" = none
  range : mg "range" = none
  repr : mg "repr" = none
  set : mg "set" = none
  sorted : mg "sorted" = none
  str : mg "str" = none
  sum : mg "sum" = none
  tuple : mg "tuple" = none
  zip : mg "zip" = none
/-! ### a def that may be called -/
structure Cal (P : Program) (w : World) (K : PySem.W.Frag) (mg : Str → Option Value) (base : Heap) (x : Str) (ps : List Str) (k : Nat) (sp : Sp) : Prop where
  ex : ∃ (f : Addr) (fd : FuncData), FnOk P w K mg base CX0 k f fd ps sp ∧ mg x = some (.ref f) ∧ PySem.W.keepIn K (.ref f) = true ∧ Binds K fd ps []
structure Def (K : PySem.W.Frag) (mg : Str → Option Value) (x : Str) (st : Stmt) (ps : List Str) (f : Addr) (fd : FuncData) : Prop where
  F : Fun K x x st f fd
  g : mg x = some (.ref f)
  b : Binds K fd ps []
theorem Def.cal {P : Program} {w : World} {K : PySem.W.Frag} {mg : Str → Option Value} {base : Heap} {x : Str} {st : Stmt} {ps : List Str} {f : Addr} {fd : FuncData} {k : Nat} {sp : Sp} (D : Def K mg x st ps f fd) (G : FnOk P w K mg base CX0 k f fd ps sp) :
    Cal P w K mg base x ps k sp := ⟨f, fd, G, D.g, D.F.kp, D.b⟩
theorem Cal.imp {P : Program} {w : World} {K : PySem.W.Frag} {mg : Str → Option Value} {base : Heap} {x : Str} {ps : List Str} {k : Nat} {sp sp' : Sp} (C : Cal P w K mg base x ps k sp) (h : ∀ vs H Q E, sp' vs H Q E → sp vs H Q E) :
    Cal P w K mg base x ps k sp' := let ⟨f, fd, G, a, b, c⟩ := C.ex; ⟨f, fd, G.imp h, a, b, c⟩
/-- f(e, ..) -/
theorem pe_cal {X : Cx} {x : Str} {ps : List Str} {k j : Nat} {sp : Sp} {e : Expr} {es : List Expr} {t : TA} {p pos : Pos} (C : Cal X.prog X.w X.K X.mg X.base x ps k sp) (hr : Room j X.A) (hj : k ≤ j) (hg : Gl X x) (ha : PA X (e :: es) t)
    (hdb : (x == ("__debug__" : Str)) = false := by decide) (he : starEach (e :: es) X.env = (false, eval e X.env) :: starEach es X.env := by rfl) (hpl : (backTo pos (starEach es X.env)).any (·.1) = false := by rfl) :
    PE X (.Call (.Name x p) (e :: es) [] pos) (tCall sp [] E0 t) := by
  obtain ⟨f, fd, G, g, kp, b⟩ := C.ex
  exact pe_call G (hr.mono hj) hg g kp b .nil pass0 ha hdb he hpl
end G69
namespace G69
open PySem PySem.Spec PyProof.Rows L2
section
variable {P : Program} {w : World} {K : PySem.W.Frag} {mg : Str → Option Value} {base : Heap}
/-! ### _law_pick -/
abbrev sPick : Stmt := topS 23
theorem scPick : FnScope ["_law_draw", "_law_some"] ["_law_draw", "_law_some"] (defScope sPick) := ⟨rfl, rfl, rfl, by decide +kernel, rfl, by decide +kernel, by decide +kernel⟩
/-- a sign as a text -/
abbrev sg (c : Nat) : Str := ⟨#[c]⟩
def spPick (K : PySem.W.Frag) : Sp := fun vs H Q _ => ∃ (d l c : Addr) (y : V), vs = [.ref d, y] ∧ Dr H d l c ∧
  ((∃ (a : Addr) (xs : List V), y = .ref a ∧ SqL K H a xs ∧ a ≠ d ∧ a ≠ l ∧ xs ≠ [] ∧ xs.length ≤ 1000 ∧ ∀ (i : Nat) (x : V) (H' : Hp), xs[i]? = some x → Dr H' d l c → Kp [d, l] H H' → Q x H') ∨
   (∃ (a : Addr) (xs : List V), y = .ref a ∧ SqT K H a xs ∧ a ≠ d ∧ a ≠ l ∧ xs ≠ [] ∧ xs.length ≤ 1000 ∧ ∀ (i : Nat) (x : V) (H' : Hp), xs[i]? = some x → Dr H' d l c → Kp [d, l] H H' → Q x H') ∨
   (∃ (z : Str), y = .str z ∧ z.cps.toList ≠ [] ∧ z.length ≤ 1000 ∧ ∀ (i : Nat) (x : Nat) (H' : Hp), z.cps.toList[i]? = some x → Dr H' d l c → Kp [d, l] H H' → Q (.str (sg x)) H'))
theorem at_lt {α : Type} {xs : List α} {r : Int} (h0 : 0 ≤ r) (h1 : r < xs.length) : ∃ x, xs[r.toNat]? = some x ∧ atI xs r = some x := by
  have h : r.toNat < xs.length := by omega
  refine ⟨xs[r.toNat], List.getElem?_eq_getElem h, ?_⟩
  have e : ((r.toNat : Nat) : Int) = r := Int.toNat_of_nonneg h0
  have := atI_nat (xs := xs) (j := r.toNat) (List.getElem?_eq_getElem h)
  rw [e] at this
  exact this
theorem ok_pick {f : Addr} {fd : FuncData} (F : Fun K "_law_pick" "_law_pick" sPick f fd) (CT : Cal P w K mg base "_law_take" ["_law_draw", "_law_size"] 1 spTake) (mL : mg "len" = none) :
    FnOk P w K mg base CX0 2 f fd ["_law_draw", "_law_some"] (spPick K) := by
  refine F.ok scPick (fun vs H Q E h => ?_) (fun cdv A outer s H vs Q E hr h => ?_)
  · obtain ⟨d, l, c, y, rfl, _⟩ := h
    rfl
  · obtain ⟨d, l, c, y, rfl, D, h⟩ := h
    refine ⟨_, pss_one (ps_ret (pe_ix ix_seq (pv 1) (pe_cal CT hr (by decide) (by rfl) (pa_cons (pv 0) (pa_cons (pe_callB call_len (by rfl) mL PySem.boot_len (pa_cons (pv 1) pa_nil)) pa_nil))) (fun _ _ => rfl))), ?_⟩
    rcases h with ⟨a, xs, rfl, hS, nd, nl, h0, h1, q⟩ | ⟨a, xs, rfl, hS, nd, nl, h0, h1, q⟩ | ⟨z, rfl, h0, h1, q⟩
    · have hp : 0 < xs.length := List.length_pos_iff.mpr h0
      refine ⟨.ref a, rfl, .ref d, rfl, .ref a, rfl, _, xs.length, rfl, .inl ⟨xs, hS, rfl⟩, d, l, c, xs.length, rfl, D, by omega, by omega, fun r H' r0 r1 D' k => ?_⟩
      obtain ⟨x, e1, e2⟩ := at_lt r0 r1
      exact .inl ⟨a, xs, r, x, rfl, rfl, k.l (not2 nd nl) hS, e2, q _ x H' e1 D' k⟩
    · have hp : 0 < xs.length := List.length_pos_iff.mpr h0
      refine ⟨.ref a, rfl, .ref d, rfl, .ref a, rfl, _, xs.length, rfl, .inr ⟨xs, hS, rfl⟩, d, l, c, xs.length, rfl, D, by omega, by omega, fun r H' r0 r1 D' k => ?_⟩
      obtain ⟨x, e1, e2⟩ := at_lt r0 r1
      exact .inr (.inl ⟨a, xs, r, x, rfl, rfl, k.t (not2 nd nl) hS, e2, q _ x H' e1 D' k⟩)
    · have hp : 0 < z.cps.toList.length := List.length_pos_iff.mpr h0
      have hz : z.length = z.cps.toList.length := by first | rfl | exact (Array.length_toList).symm
      refine ⟨.str z, rfl, .ref d, rfl, .str z, rfl, _, z.length, rfl, ⟨szle (by omega), rfl⟩, d, l, c, z.length, rfl, D, by omega, by omega, fun r H' r0 r1 D' k => ?_⟩
      obtain ⟨x, e1, e2⟩ := at_lt (xs := z.cps.toList) r0 (by omega)
      exact .inr (.inr ⟨z, r, x, rfl, rfl, szle (by omega), e2, q _ x H' e1 D' k⟩)
end
end G69
namespace G69
open PySem PySem.Spec PyProof.Rows L2
/-! ### classes, by number: their names, their fields -/
def cn : Nat → Str
  | 0 => "Slips"
  | 1 => "Speller"
  | 2 => "Listener"
  | 3 => "Machine"
  | 4 => "Land"
  | 5 => "Session"
  | 6 => "Move"
  | 7 => "Desk"
  | 8 => "Moment"
  | 9 => "Mark"
  | _ => "no class"
def fnm : Nat → List Str
  | 0 => ["z_extra", "z_missing", "z_wrong", "z_swapped"]
  | 1 => ["e_entries", "e_slips"]
  | 2 => ["h_speller", "h_limit"]
  | 3 => ["m_rows"]
  | 4 => ["l_teller", "l_answer"]
  | 5 => ["v_origin", "v_now", "v_mark"]
  | 8 => ["q_speller", "q_text", "q_deed", "q_before"]
  | 9 => ["k_now", "k_before"]
  | _ => []
/-! ### errors, by number: their names, their fields -/
def en : Nat → Str
  | 0 => "SpellError"
  | 1 => "BadSlips"
  | 2 => "BadText"
  | 3 => "BadEntry"
  | 4 => "NoWord"
  | 5 => "Clash"
  | 6 => "BadLimit"
  | 7 => "BadMachine"
  | 8 => "BadState"
  | 9 => "BadNumber"
  | 10 => "TooMany"
  | 11 => "BadExample"
  | 12 => "NoFit"
  | 13 => "BadDeed"
  | 14 => "BadJournal"
  | 15 => "BadLine"
  | _ => "no error"
def ef : Nat → List Str
  | 1 => ["part"]
  | 3 => ["at"]
  | 4 => ["word"]
  | 5 => ["word"]
  | 7 => ["row"]
  | 10 => ["most"]
  | 11 => ["at"]
  | 12 => ["ring"]
  | 13 => ["at"]
  | 14 => ["row"]
  | 15 => ["row"]
  | _ => []
/-! ### trees: values without a heap -/
inductive T where
  | non | bl (b : Bool) | int (i : Int) | str (z : Str) | ty (n : String)
  | lst (ts : List T) | tup (ts : List T)
  | dic (ks : List Key) (ts : List T)
  | ins (c : Nat) (ts : List T)
  | err (c : Nat) (ts : List T)
  | drw
  | scr (n : Nat)
  | ob (v : V)
abbrev Dw := Option (Addr × Addr × Addr)
/-- the written part, the module's names, the drawing -/
structure Mo where
  K : PySem.W.Frag
  mg : Str → Option Value
  D : Dw
mutual
inductive Rp (M : Mo) (Z : Hp) : T → V → Prop
  | non : Rp M Z .non .non
  | bl (b : Bool) : Rp M Z (.bl b) (.bl b)
  | int (i : Int) : Rp M Z (.int i) (.int i)
  | str {z : Str} : z.length ≤ sizeLine → Rp M Z (.str z) (.str z)
  | ty (n : String) : Rp M Z (.ty n) (.ty n)
  | lst {a : Addr} {vs : List V} {ts : List T} : Z a = some (.lst vs) → ts.length ≤ sizeLine → RpL M Z ts vs → Rp M Z (.lst ts) (.ref a)
  | tup {a : Addr} {vs : List V} {ts : List T} : Z a = some (.tup vs) → ts.length ≤ sizeLine → RpL M Z ts vs → Rp M Z (.tup ts) (.ref a)
  | dic {a : Addr} {vs : List V} {ks : List Key} {ts : List T} : Z a = some (.dK (ks.zip vs)) → ks.length = ts.length → RpL M Z ts vs → Rp M Z (.dic ks ts) (.ref a)
  | ins {a C dx : Addr} {c : Nat} {vs : List V} {ts : List T} : M.mg (cn c) = some (.ref C) → Z a = some (.ins C dx ((fnm c).zip vs)) → Z dx = some (.own a) → RpL M Z ts vs → Rp M Z (.ins c ts) (.ref a)
  | err {a C : Addr} {od : Option Addr} {c : Nat} {vs : List V} {ts : List T} : M.mg (en c) = some (.ref C) → Z a = some (ErO (.ref C) od a) → ((ef c = [] ∧ od = none) ∨ ∃ d, od = some d ∧ Z d = some (.xd ((ef c).zip vs))) → RpL M Z ts vs → Rp M Z (.err c ts) (.ref a)
  | drw {d l c : Addr} : M.D = some (d, l, c) → Rp M Z .drw (.ref d)
  | scr {a : Addr} {vs : List V} : SqL M.K Z a vs → Rp M Z (.scr vs.length) (.ref a)
  | ob (v : V) : Rp M Z (.ob v) v
inductive RpL (M : Mo) (Z : Hp) : List T → List V → Prop
  | nil : RpL M Z [] []
  | cons {t : T} {v : V} {ts : List T} {vs : List V} : Rp M Z t v → RpL M Z ts vs → RpL M Z (t :: ts) (v :: vs)
end
theorem Same.rd {H H' : Hp} {a : Addr} {u : HO} (e : Same H H') (h : Rd H a u) : Rd H' a u := by
  rcases h with h | ⟨o, h⟩
  · exact .inl (e _ _ h)
  · exact .inr ⟨o, e _ _ h⟩
theorem Same.sl {K : PySem.W.Frag} {H H' : Hp} {a : Addr} {xs : List V} (e : Same H H') (h : SqL K H a xs) : SqL K H' a xs := h.elim (fun h => .inl (Same.rd e h)) .inr
theorem Same.st {K : PySem.W.Frag} {H H' : Hp} {a : Addr} {xs : List V} (e : Same H H') (h : SqT K H a xs) : SqT K H' a xs := h.elim (fun h => .inl (Same.rd e h)) .inr
section
variable {M : Mo} {Z Z' : Hp}
mutual
theorem Rp.mono (e : Same Z Z') : ∀ {t : T} {v : V}, Rp M Z t v → Rp M Z' t v
  | _, _, .non => .non
  | _, _, .bl b => .bl b
  | _, _, .int i => .int i
  | _, _, .str h => .str h
  | _, _, .ty n => .ty n
  | _, _, .lst h n l => .lst (e _ _ h) n (RpL.mono e l)
  | _, _, .tup h n l => .tup (e _ _ h) n (RpL.mono e l)
  | _, _, .dic h n l => .dic (e _ _ h) n (RpL.mono e l)
  | _, _, .ins g h d l => .ins g (e _ _ h) (e _ _ d) (RpL.mono e l)
  | _, _, .err g h d l => .err g (e _ _ h) (d.imp (fun q => q) fun ⟨x, y, z⟩ => ⟨x, y, e _ _ z⟩) (RpL.mono e l)
  | _, _, .drw h => .drw h
  | _, _, .scr h => .scr (Same.sl e h)
  | _, _, .ob v => .ob v
theorem RpL.mono (e : Same Z Z') : ∀ {ts : List T} {vs : List V}, RpL M Z ts vs → RpL M Z' ts vs
  | _, _, .nil => .nil
  | _, _, .cons h l => .cons (Rp.mono e h) (RpL.mono e l)
end
theorem RpL.len : ∀ {ts : List T} {vs : List V}, RpL M Z ts vs → ts.length = vs.length
  | _, _, .nil => rfl
  | _, _, .cons _ l => congrArg Nat.succ (RpL.len l)
theorem RpL.get : ∀ {ts : List T} {vs : List V} {i : Nat} {t : T}, RpL M Z ts vs → ts[i]? = some t → ∃ v, vs[i]? = some v ∧ Rp M Z t v
  | _, _, 0, _, .cons h _, e => by
    cases e
    exact ⟨_, rfl, h⟩
  | _, _, i + 1, _, .cons _ l, e => RpL.get (i := i) l e
theorem RpL.get2 : ∀ {ts : List T} {vs : List V} {i : Nat} {v : V}, RpL M Z ts vs → vs[i]? = some v → ∃ t, ts[i]? = some t ∧ Rp M Z t v
  | _, _, 0, _, .cons h _, e => by
    cases e
    exact ⟨_, rfl, h⟩
  | _, _, i + 1, _, .cons _ l, e => RpL.get2 (i := i) l e
theorem RpL.app : ∀ {ts us : List T} {vs ws : List V}, RpL M Z ts vs → RpL M Z us ws → RpL M Z (ts ++ us) (vs ++ ws)
  | _, _, _, _, .nil, r => r
  | _, _, _, _, .cons h l, r => .cons h (RpL.app l r)
theorem RpL.take : ∀ {ts : List T} {vs : List V} (n : Nat), RpL M Z ts vs → RpL M Z (ts.take n) (vs.take n)
  | _, _, 0, _ => .nil
  | _, _, _ + 1, .nil => .nil
  | _, _, n + 1, .cons h l => .cons h (RpL.take n l)
theorem RpL.drop : ∀ {ts : List T} {vs : List V} (n : Nat), RpL M Z ts vs → RpL M Z (ts.drop n) (vs.drop n)
  | _, _, 0, r => r
  | _, _, _ + 1, .nil => .nil
  | _, _, n + 1, .cons _ l => RpL.drop n l
theorem RpL.set {t : T} {v : V} (r : Rp M Z t v) : ∀ {ts : List T} {vs : List V} (i : Nat), RpL M Z ts vs → RpL M Z (ts.set i t) (vs.set i v)
  | _, _, _, .nil => .nil
  | _, _, 0, .cons _ l => .cons r l
  | _, _, i + 1, .cons h l => .cons h (RpL.set r i l)
theorem RpL.erase : ∀ {ts : List T} {vs : List V} (i : Nat), RpL M Z ts vs → RpL M Z (ts.eraseIdx i) (vs.eraseIdx i)
  | _, _, _, .nil => .nil
  | _, _, 0, .cons _ l => l
  | _, _, i + 1, .cons h l => .cons h (RpL.erase i l)
end
/-! ### slots -/
inductive Sl where
  | no | sh (t : T) | ow (t : T)
abbrev S3 := List Sl
/-- what is one's own: a list, a dict, an instance that no other thing knows -/
def Ow (M : Mo) (q : Option Addr) (Z H : Hp) (t : T) (a : Addr) : Prop :=
  match t with
  | .lst ts => ∃ vs, H a = some (.lst vs) ∧ ts.length ≤ sizeLine ∧ RpL M Z ts vs
  | .dic ks ts => ∃ vs, H a = some (.dK (ks.zip vs)) ∧ ks.length = ts.length ∧ RpL M Z ts vs
  | .ins c ts => (∀ p, q = some p → a = p) ∧ ∃ C dx vs, M.mg (cn c) = some (.ref C) ∧ H a = some (.ins C dx ((fnm c).zip vs)) ∧ Z dx = some (.own a) ∧ RpL M Z ts vs
  | _ => False
def DrOk (D : Dw) (H Z : Hp) : Prop :=
  match D with
  | none => True
  | some (d, l, c) => Dr H d l c ∧ Z d = none ∧ Z l = none ∧ Z c = none
def DS (D : Dw) : List Addr :=
  match D with
  | none => []
  | some (d, l, _) => [d, l]
def offD (D : Dw) (a : Addr) : Prop :=
  match D with
  | none => True
  | some (d, l, c) => a ≠ d ∧ a ≠ l ∧ a ≠ c
/-- what the layer never touches: tables of code objects, things of other layers -/
def xob : HO → Prop
  | .tbl _ => True
  | .ext _ => True
  | _ => False
/-- no table -/
def NT : HO → Prop
  | .tbl _ => False
  | _ => True
theorem NT.ne {o : HO} (h : NT o) (ps : Array Value) : o ≠ .tbl ps := by
  rintro rfl
  exact h
theorem NT.of {o : HO} (h : ¬ xob o) : NT o := by
  cases o <;> first | trivial | exact h trivial
/-- a heap without its tables -/
def noT (H : Hp) : Hp := fun a => match H a with
  | some (.tbl _) => none
  | x => x
theorem noT_some {H : Hp} {a : Addr} {o : HO} (h : noT H a = some o) : H a = some o ∧ NT o := by
  unfold noT at h
  split at h
  · cases h
  · rename_i hx
    refine ⟨h, ?_⟩
    cases o <;> first | trivial | exact (hx _ h).elim
theorem noT_of {H : Hp} {a : Addr} {o : HO} (h : H a = some o) (n : NT o) : noT H a = some o := by
  unfold noT
  rw [h]
  cases o <;> first | rfl | exact n.elim
theorem noT_none {H : Hp} {a : Addr} (h : H a = none) : noT H a = none := by
  unfold noT
  rw [h]
theorem noT_same (H : Hp) : Same (noT H) H := fun _ _ h => (noT_some h).1
theorem noT_mono {H H' : Hp} (h : ∀ b o, H b = some o → H' b = some o) : ∀ b o, noT H b = some o → noT H' b = some o := fun b o e => noT_of (h b o (noT_some e).1) (noT_some e).2
theorem noT_nt (H : Hp) : ∀ a o, noT H a = some o → NT o := fun _ _ h => (noT_some h).2
/-- the defs that make lambdas, their tables -/
def lamDefs : List Str := ["law"]
def tabOf (K : PySem.W.Frag) (mg : Str → Option Value) (x : Str) : Option (Addr × Addr × Str) := match mg x with
  | some (.ref f) => (match K.lookup f with
    | some o => (match o.data with
      | .func fd => (match fd.code with
        | .ref c => (match K.lookup c with
          | some oc => (match oc.data with
            | .fields vs => (match (vs[11]? : Option Value) with
              | some (.ref P) => some (c, P, x ++ ".<locals>." ++ "<lambda>")
              | _ => none)
            | _ => none)
          | none => none)
        | _ => none)
      | _ => none)
    | none => none)
  | _ => none
def tabs3 (K : PySem.W.Frag) (mg : Str → Option Value) : List (Addr × Addr × Str) := lamDefs.filterMap (tabOf K mg)
def tabs (K : PySem.W.Frag) (mg : Str → Option Value) : List (Addr × Str) := (tabs3 K mg).map (·.2)
def TbOk (K : PySem.W.Frag) (mg : Str → Option Value) (H : Hp) : Prop := LamX.Tabs (tabs K mg) H
theorem tbOk_none (h : lamDefs = []) {K : PySem.W.Frag} {mg : Str → Option Value} {H : Hp} : TbOk K mg H := fun p hp => by
  have e : tabs K mg = [] := by
    unfold tabs tabs3
    rw [h]
    rfl
  rw [e] at hp
  cases hp
theorem TbOk.st {K : PySem.W.Frag} {mg : Str → Option Value} {H H' : Hp} (h : TbOk K mg H) (e : ∀ b o, H b = some o → xob o → H' b = some o) : TbOk K mg H' := fun p hp => by
  obtain ⟨ps, h1, h2, h3⟩ := h p hp
  refine ⟨ps, e _ _ h1 trivial, h2, fun pos cv hc => ?_⟩
  obtain ⟨c, e1, e2⟩ := h3 pos cv hc
  exact ⟨c, e1, e _ _ e2 trivial⟩
structure Gh where
  M : Mo
  H0 : Hp
  Z0 : Hp
  q : Option Addr
structure Core (G : Gh) (Z H : Hp) : Prop where
  le : Same Z H
  z0 : Same G.Z0 Z
  nw : ∀ a, G.Z0 a = none → Z a ≠ none → G.H0 a = none
  kp : Kp (DS G.M.D) G.H0 H
  dr : DrOk G.M.D H Z
  tb : TbOk G.M.K G.M.mg H
  zt : ∀ a o, Z a = some o → NT o
  h0 : ∀ a o, G.H0 a = some o → NT o
/-- what a callee is told of the heap -/
structure Sz (K : PySem.W.Frag) (mg : Str → Option Value) (Z H : Hp) : Prop where
  le : Same Z H
  tb : TbOk K mg H
  zt : ∀ a o, Z a = some o → NT o
def Pv (G : Gh) (px Z : Hp) (a : Addr) : Prop := Z a = none ∧ G.H0 a = none ∧ px a = none ∧ offD G.M.D a
structure Fm (G : Gh) (px Z H : Hp) (σ : L2.St) (s : S3) : Prop extends Core G Z H where
  len : σ.length = s.length
  sh : ∀ (i : Nat) (t : T), s[i]? = some (Sl.sh t) → ∃ v, σ[i]? = some (some v) ∧ Rp G.M Z t v
  ow : ∀ (i : Nat) (t : T), s[i]? = some (Sl.ow t) → ∃ a, σ[i]? = some (some (V.ref a)) ∧ Pv G px Z a ∧ Ow G.M G.q Z H t a
  inj : ∀ (i j : Nat) (a : Addr) (t u : T), s[i]? = some (Sl.ow t) → s[j]? = some (Sl.ow u) → σ[i]? = some (some (V.ref a)) → σ[j]? = some (some (V.ref a)) → i = j
  px : ∀ a o, px a = some o → H a = some o ∧ Z a = none ∧ G.H0 a = none ∧ offD G.M.D a ∧ NT o
/-- not among what is owned -/
def NotOw (σ : L2.St) (s : S3) (a : Addr) : Prop := ∀ (i : Nat) (t : T), s[i]? = some (Sl.ow t) → σ[i]? ≠ some (some (V.ref a))
theorem Ow.mono {M : Mo} {q : Option Addr} {Z Z' H H' : Hp} {t : T} {a : Addr} (h : Ow M q Z H t a) (e : Same Z Z') (k : ∀ o, H a = some o → H' a = some o) : Ow M q Z' H' t a := by
  cases t with
  | lst ts => obtain ⟨vs, h1, h2, h3⟩ := h; exact ⟨vs, k _ h1, h2, h3.mono e⟩
  | dic ks ts => obtain ⟨vs, h1, h2, h3⟩ := h; exact ⟨vs, k _ h1, h2, h3.mono e⟩
  | ins c ts => obtain ⟨hq, C, dx, vs, h0, h1, h2, h3⟩ := h; exact ⟨hq, C, dx, vs, h0, k _ h1, e _ _ h2, h3.mono e⟩
  | _ => exact h
theorem Ow.at {M : Mo} {q : Option Addr} {Z H : Hp} {t : T} {a : Addr} (h : Ow M q Z H t a) : ∃ o, H a = some o := by
  cases t with
  | lst ts => obtain ⟨vs, h1, h2, h3⟩ := h; exact ⟨_, h1⟩
  | dic ks ts => obtain ⟨vs, h1, h2, h3⟩ := h; exact ⟨_, h1⟩
  | ins c ts => obtain ⟨hq, C, dx, vs, h0, h1, h2, h3⟩ := h; exact ⟨_, h1⟩
  | _ => exact h.elim
theorem Ow.nx {M : Mo} {q : Option Addr} {Z H : Hp} {t : T} {a : Addr} {o : HO} (h : Ow M q Z H t a) (e : H a = some o) : ¬ xob o := by
  cases t with
  | lst ts => obtain ⟨vs, h1, h2, h3⟩ := h; rw [h1] at e; cases e; exact id
  | dic ks ts => obtain ⟨vs, h1, h2, h3⟩ := h; rw [h1] at e; cases e; exact id
  | ins c ts => obtain ⟨hq, C, dx, vs, h0, h1, h2, h3⟩ := h; rw [h1] at e; cases e; exact id
  | _ => exact h.elim
theorem Ow.nt {M : Mo} {q : Option Addr} {Z H : Hp} {t : T} {a : Addr} {o : HO} (h : Ow M q Z H t a) (e : H a = some o) : NT o := .of (h.nx e)
theorem Tb.upd {K : PySem.W.Frag} {mg : Str → Option Value} {H : Hp} {a : Addr} {o o' : HO} (h : TbOk K mg H) (e : H a = some o) (n : ¬ xob o) : TbOk K mg (upd H a o') := h.st fun b u hb hx => by
  rw [upd_ne]
  · exact hb
  · rintro rfl
    rw [e] at hb
    cases hb
    exact n hx
theorem Dr.nx {H : Hp} {d l c : Addr} (D : Dr H d l c) {b : Addr} {o : HO} (e : H b = some o) (hx : xob o) : b ∉ [d, l] := by
  obtain ⟨ls, cs, r, t, m, x⟩ := D
  intro hm
  simp only [List.mem_cons, List.not_mem_nil, or_false] at hm
  rcases hm with rfl | rfl
  · have := x.dd
    rw [e] at this
    cases this
    exact hx
  · have := x.hl
    rw [e] at this
    cases this
    exact hx
theorem Tb.kp {K : PySem.W.Frag} {mg : Str → Option Value} {D : Dw} {H H' Z : Hp} (h : TbOk K mg H) (d : DrOk D H Z) (k : Kp (DS D) H H') : TbOk K mg H' := h.st fun b u hb hx => k b u hb (by
  cases D with
  | none => exact notnil
  | some y =>
    obtain ⟨d1, l1, c1⟩ := y
    exact d.1.nx hb hx)
theorem Ow.rp {M : Mo} {q : Option Addr} {Z H Z' : Hp} {t : T} {a : Addr} {o : HO} (h : Ow M q Z H t a) (e : Same Z Z') (ho : H a = some o) (hz : Z' a = some o) : Rp M Z' t (.ref a) := by
  cases t with
  | lst ts =>
    obtain ⟨vs, h1, h2, h3⟩ := h
    rw [h1] at ho
    cases ho
    exact .lst hz h2 (h3.mono e)
  | dic ks ts =>
    obtain ⟨vs, h1, h2, h3⟩ := h
    rw [h1] at ho
    cases ho
    exact .dic hz h2 (h3.mono e)
  | ins c ts =>
    obtain ⟨hq, C, dx, vs, h0, h1, h2, h3⟩ := h
    rw [h1] at ho
    cases ho
    exact .ins h0 hz (e _ _ h2) (h3.mono e)
  | _ => exact h.elim
theorem Same.new {H : Hp} {p : Addr} {o : HO} (h : H p = none) : Same H (upd H p o) := fun a u e => by
  rw [upd_ne (ne_of_none e h)]
  exact e
theorem sameKp {S : List Addr} {H H' : Hp} (e : Same H H') : Kp S H H' := fun a o h _ => e a o h
section
variable {G : Gh} {px Z Z' H H' : Hp} {σ : L2.St} {s : S3}
theorem offD.not {D : Dw} {a : Addr} (h : offD D a) : a ∉ DS D := by
  cases D with
  | none => exact notnil
  | some x =>
    obtain ⟨d, l, c⟩ := x
    exact not2 h.1 h.2.1
theorem DrOk.offZ {D : Dw} {a : Addr} {o : HO} (h : DrOk D H Z) (e : Z a = some o) : offD D a := by
  cases D with
  | none => trivial
  | some x =>
    obtain ⟨d, l, c⟩ := x
    exact ⟨ne_of_none e h.2.1, ne_of_none e h.2.2.1, ne_of_none e h.2.2.2⟩
theorem DrOk.offN {D : Dw} {a : Addr} (h : DrOk D H Z) (e : H a = none) : offD D a := by
  cases D with
  | none => trivial
  | some x =>
    obtain ⟨d, l, c⟩ := x
    exact h.1.nes e
theorem DrOk.offT {D : Dw} {a : Addr} (h : DrOk D H Z) (e : noT H a = none) : offD D a := by
  cases D with
  | none => trivial
  | some x =>
    obtain ⟨d, l, c⟩ := x
    obtain ⟨ls, cs, r, t, m, x⟩ := h.1
    refine ⟨?_, ?_, ?_⟩
    · rintro rfl; rw [noT_of x.dd trivial] at e; cases e
    · rintro rfl; rw [noT_of x.hl trivial] at e; cases e
    · rintro rfl; rw [noT_of x.hc trivial] at e; cases e
/-- Z and H grow by what is new -/
structure Gw (Z H Z' H' : Hp) : Prop where
  zz : Same Z Z'
  le : Same Z' H'
  hh : Same H H'
  nw : ∀ a, Z a = none → Z' a ≠ none → H a = none
  zt : ∀ a o, Z' a = some o → Z a = some o ∨ NT o
theorem Kp.none_of {S : List Addr} {H H' : Hp} {a : Addr} (k : Kp S H H') (n : a ∉ S) (h : H' a = none) : H a = none := k.back n h
theorem Core.grow (c : Core G Z H) (g : Gw Z H Z' H') : Core G Z' H' := by
  have hdr : DrOk G.M.D H' Z' := by
    have h := c.dr
    revert h
    cases hD : G.M.D with
    | none => intro _; trivial
    | some x =>
      obtain ⟨d, l, cc⟩ := x
      intro h
      obtain ⟨ls, cs, r, t, m, x⟩ := h.1
      refine ⟨h.1.keep0 (sameKp g.hh), ?_, ?_, ?_⟩
      · cases e : Z' d with
        | none => rfl
        | some o => exact absurd (g.nw d h.2.1 (by rw [e]; intro z; cases z)) (by rw [x.dd]; intro z; cases z)
      · cases e : Z' l with
        | none => rfl
        | some o => exact absurd (g.nw l h.2.2.1 (by rw [e]; intro z; cases z)) (by rw [x.hl]; intro z; cases z)
      · cases e : Z' cc with
        | none => rfl
        | some o => exact absurd (g.nw cc h.2.2.2 (by rw [e]; intro z; cases z)) (by rw [x.hc]; intro z; cases z)
  refine ⟨g.le, c.z0.trans g.zz, fun a h1 h2 => ?_, c.kp.trans (sameKp g.hh), hdr, c.tb.st fun b o e _ => g.hh b o e, fun a o e => (g.zt a o e).elim (c.zt a o) id, c.h0⟩
  cases e : Z a with
  | some o => exact c.nw a h1 (by rw [e]; intro z; cases z)
  | none =>
    have hn := g.nw a e h2
    exact c.kp.back (c.dr.offN hn).not hn
theorem Pv.grow {a : Addr} (h : Pv G px Z a) (g : Gw Z H Z' H') (ha : ∃ o, H a = some o) : Pv G px Z' a := by
  refine ⟨?_, h.2.1, h.2.2.1, h.2.2.2⟩
  cases e : Z' a with
  | none => rfl
  | some o =>
    obtain ⟨u, hu⟩ := ha
    exact absurd (g.nw a h.1 (by rw [e]; intro z; cases z)) (by rw [hu]; intro z; cases z)
theorem Fm.grow (f : Fm G px Z H σ s) (g : Gw Z H Z' H') : Fm G px Z' H' σ s where
  toCore := f.toCore.grow g
  len := f.len
  sh := fun i t e => let ⟨v, h1, h2⟩ := f.sh i t e; ⟨v, h1, h2.mono g.zz⟩
  ow := fun i t e => let ⟨a, h1, h2, h3⟩ := f.ow i t e; ⟨a, h1, h2.grow g h3.at, h3.mono g.zz fun o h => g.hh _ _ h⟩
  inj := f.inj
  px := fun a o e => by
    obtain ⟨h1, h2, h3, h4⟩ := f.px a o e
    refine ⟨g.hh _ _ h1, ?_, h3, h4⟩
    cases e : Z' a with
    | none => rfl
    | some u => exact absurd (g.nw a h2 (by rw [e]; intro z; cases z)) (by rw [h1]; intro z; cases z)
theorem Gw.rfl' (h : Same Z H) : Gw Z H Z H := ⟨fun _ _ e => e, h, fun _ _ e => e, fun a h1 h2 => absurd h1 h2, fun _ _ e => .inl e⟩
/-- a new object, known to all -/
theorem Gw.new {p : Addr} {o : HO} (h : Same Z H) (n : H p = none) (nt : NT o := by trivial) : Gw Z H (upd Z p o) (upd H p o) := by
  have nz : Z p = none := by
    cases e : Z p with
    | none => rfl
    | some u => rw [h p u e] at n; cases n
  refine ⟨Same.new nz, fun a u e => ?_, Same.new n, fun a h1 h2 => ?_, fun a u e => ?_⟩
  · by_cases ha : a = p
    · subst ha
      rw [upd_same] at e ⊢
      exact e
    · rw [upd_ne ha] at e ⊢
      exact h a u e
  · by_cases ha : a = p
    · subst ha
      exact n
    · rw [upd_ne ha] at h2
      exact absurd h1 h2
  · by_cases ha : a = p
    · subst ha
      rw [upd_same] at e
      cases e
      exact .inr nt
    · rw [upd_ne ha] at e
      exact .inl e
/-- a new object, known to none -/
theorem Gw.mute {p : Addr} {o : HO} (h : Same Z H) (n : H p = none) : Gw Z H Z (upd H p o) :=
  ⟨fun _ _ e => e, h.trans (Same.new n), Same.new n, fun a h1 h2 => absurd h1 h2, fun _ _ e => .inl e⟩
end
end G69
namespace G69
open PySem PySem.Spec PyProof.Rows L2
section
variable {G : Gh} {px Z Z' H H' : Hp} {σ : L2.St} {s : S3}
theorem set_at {α : Type} {l : List α} {i j : Nat} {x y : α} (h : (l.set i x)[j]? = some y) : (j = i ∧ y = x) ∨ (j ≠ i ∧ l[j]? = some y) := by
  by_cases e : j = i
  · subst e
    by_cases hl : j < l.length
    · rw [List.getElem?_set_self hl] at h
      exact .inl ⟨rfl, (Option.some.inj h).symm⟩
    · rw [List.getElem?_eq_none (by rw [List.length_set]; omega)] at h
      cases h
  · rw [List.getElem?_set_ne (fun z => e z.symm)] at h
    exact .inr ⟨e, h⟩
theorem Fm.drop (f : Fm G px Z H σ s) (i : Nat) : Fm G px Z H σ (s.set i .no) where
  toCore := f.toCore
  len := by rw [List.length_set]; exact f.len
  sh := fun j t e => by
    rcases set_at e with ⟨_, z⟩ | ⟨_, e⟩
    · cases z
    · exact f.sh j t e
  ow := fun j t e => by
    rcases set_at e with ⟨_, z⟩ | ⟨_, e⟩
    · cases z
    · exact f.ow j t e
  inj := fun j k a t u e1 e2 h1 h2 => by
    rcases set_at e1 with ⟨_, z⟩ | ⟨_, e1⟩
    · cases z
    · rcases set_at e2 with ⟨_, z⟩ | ⟨_, e2⟩
      · cases z
      · exact f.inj j k a t u e1 e2 h1 h2
  px := f.px
theorem Fm.dropNot (f : Fm G px Z H σ s) {i : Nat} {t : T} {a : Addr} (e : s[i]? = some (.ow t)) (h : σ[i]? = some (some (.ref a))) : NotOw σ (s.set i .no) a := fun j u e2 h2 => by
  rcases set_at e2 with ⟨_, z⟩ | ⟨ne, e2⟩
  · cases z
  · exact ne (f.inj j i a u t e2 e h2 h)
/-- what was one's own is known to all -/
theorem Fm.freeze (f : Fm G px Z H σ s) {a : Addr} {o : HO} (hp : Pv G px Z a) (hn : NotOw σ s a) (ho : H a = some o) (nt : NT o) : Fm G px (upd Z a o) H σ s where
  le := fun b u e => by
    by_cases hb : b = a
    · subst hb
      rw [upd_same] at e
      rw [ho]
      exact e
    · rw [upd_ne hb] at e
      exact f.le b u e
  z0 := f.z0.trans (Same.new hp.1)
  nw := fun b h1 h2 => by
    by_cases hb : b = a
    · subst hb
      exact hp.2.1
    · rw [upd_ne hb] at h2
      exact f.nw b h1 h2
  kp := f.kp
  dr := by
    have h := f.dr
    have g := hp.2.2.2
    revert h g
    cases G.M.D with
    | none => intro _ _; trivial
    | some x =>
      obtain ⟨d, l, c⟩ := x
      intro h g
      exact ⟨h.1, by rw [upd_ne g.1.symm]; exact h.2.1, by rw [upd_ne g.2.1.symm]; exact h.2.2.1, by rw [upd_ne g.2.2.symm]; exact h.2.2.2⟩
  tb := f.tb
  zt := fun b u e => by
    by_cases hb : b = a
    · subst hb
      rw [upd_same] at e
      cases e
      exact nt
    · rw [upd_ne hb] at e
      exact f.zt b u e
  h0 := f.h0
  len := f.len
  sh := fun i t e => let ⟨v, h1, h2⟩ := f.sh i t e; ⟨v, h1, h2.mono (Same.new hp.1)⟩
  ow := fun i t e => by
    obtain ⟨b, h1, h2, h3⟩ := f.ow i t e
    have hb : b ≠ a := fun z => hn i t e (by rw [h1, z])
    exact ⟨b, h1, ⟨by rw [upd_ne hb]; exact h2.1, h2.2⟩, h3.mono (Same.new hp.1) fun _ q => q⟩
  inj := f.inj
  px := fun b u e => by
    obtain ⟨h1, h2, h3⟩ := f.px b u e
    have hb : b ≠ a := ne_of_none e hp.2.2.1
    exact ⟨h1, by rw [upd_ne hb]; exact h2, h3⟩
theorem Fm.shAt (f : Fm G px Z H σ s) {i : Nat} {t : T} {v : V} (h : σ[i]? = some (some v)) (r : Rp G.M Z t v) : Fm G px Z H σ (s.set i (.sh t)) where
  toCore := f.toCore
  len := by rw [List.length_set]; exact f.len
  sh := fun j u e => by
    rcases set_at e with ⟨hj, z⟩ | ⟨_, e⟩
    · cases z
      subst hj
      exact ⟨v, h, r⟩
    · exact f.sh j u e
  ow := fun j u e => by
    rcases set_at e with ⟨_, z⟩ | ⟨_, e⟩
    · cases z
    · exact f.ow j u e
  inj := fun j k a t u e1 e2 h1 h2 => by
    rcases set_at e1 with ⟨_, z⟩ | ⟨_, e1⟩
    · cases z
    · rcases set_at e2 with ⟨_, z⟩ | ⟨_, e2⟩
      · cases z
      · exact f.inj j k a t u e1 e2 h1 h2
  px := f.px
theorem Fm.setNo (f : Fm G px Z H σ s) (i : Nat) (x : Option V) : Fm G px Z H (σ.set i x) (s.set i .no) where
  toCore := f.toCore
  len := by rw [List.length_set, List.length_set]; exact f.len
  sh := fun j u e => by
    rcases set_at e with ⟨hj, z⟩ | ⟨hj, e⟩
    · cases z
    · rw [List.getElem?_set_ne (fun z => hj z.symm)]
      exact f.sh j u e
  ow := fun j u e => by
    rcases set_at e with ⟨_, z⟩ | ⟨hj, e⟩
    · cases z
    · rw [List.getElem?_set_ne (fun z => hj z.symm)]
      exact f.ow j u e
  inj := fun j k a t u e1 e2 h1 h2 => by
    rcases set_at e1 with ⟨_, z⟩ | ⟨n1, e1⟩
    · cases z
    · rcases set_at e2 with ⟨_, z⟩ | ⟨n2, e2⟩
      · cases z
      · rw [List.getElem?_set_ne (fun z => n1 z.symm)] at h1
        rw [List.getElem?_set_ne (fun z => n2 z.symm)] at h2
        exact f.inj j k a t u e1 e2 h1 h2
  px := f.px
theorem Fm.setSh (f : Fm G px Z H σ s) {i : Nat} (hi : i < s.length) {t : T} {v : V} (r : Rp G.M Z t v) : Fm G px Z H (σ.set i (some v)) (s.set i (.sh t)) := by
  have h := (f.setNo i (some v)).shAt (i := i) (v := v) (by rw [List.getElem?_set_self (by rw [f.len]; exact hi)]) r
  rw [List.set_set] at h
  exact h
theorem Fm.setOw (f : Fm G px Z H σ s) {i : Nat} (hi : i < s.length) {t : T} {a : Addr} (hp : Pv G px Z a) (hn : NotOw σ s a) (ow : Ow G.M G.q Z H t a) : Fm G px Z H (σ.set i (some (.ref a))) (s.set i (.ow t)) where
  toCore := f.toCore
  len := by rw [List.length_set, List.length_set]; exact f.len
  sh := fun j u e => by
    rcases set_at e with ⟨hj, z⟩ | ⟨hj, e⟩
    · cases z
    · rw [List.getElem?_set_ne (fun z => hj z.symm)]
      exact f.sh j u e
  ow := fun j u e => by
    rcases set_at e with ⟨hj, z⟩ | ⟨hj, e⟩
    · cases z
      subst hj
      exact ⟨a, by rw [List.getElem?_set_self (by rw [f.len]; exact hi)], hp, ow⟩
    · rw [List.getElem?_set_ne (fun z => hj z.symm)]
      exact f.ow j u e
  inj := fun j k b t' u e1 e2 h1 h2 => by
    rcases set_at e1 with ⟨n1, z1⟩ | ⟨n1, e1⟩
    · rcases set_at e2 with ⟨n2, z2⟩ | ⟨n2, e2⟩
      · rw [n1, n2]
      · rw [n1, List.getElem?_set_self (by rw [f.len]; exact hi)] at h1
        cases h1
        rw [List.getElem?_set_ne (fun z => n2 z.symm)] at h2
        exact absurd h2 (hn k u e2)
    · rcases set_at e2 with ⟨n2, z2⟩ | ⟨n2, e2⟩
      · rw [n2, List.getElem?_set_self (by rw [f.len]; exact hi)] at h2
        cases h2
        rw [List.getElem?_set_ne (fun z => n1 z.symm)] at h1
        exact absurd h1 (hn j t' e1)
      · rw [List.getElem?_set_ne (fun z => n1 z.symm)] at h1
        rw [List.getElem?_set_ne (fun z => n2 z.symm)] at h2
        exact f.inj j k b t' u e1 e2 h1 h2
  px := f.px
/-- one's own thing is changed -/
theorem Fm.put (f : Fm G px Z H σ s) {i : Nat} {t u : T} {a : Addr} {o : HO} (e : s[i]? = some (.ow t)) (h : σ[i]? = some (some (.ref a))) (ow : Ow G.M G.q Z (upd H a o) u a) : Fm G px Z (upd H a o) σ (s.set i (.ow u)) := by
  obtain ⟨b, hb, hp, hw⟩ := f.ow i t e
  rw [h] at hb
  cases hb
  obtain ⟨oo, hoo⟩ := hw.at
  have hi : i < s.length := (List.getElem?_eq_some_iff.mp e).1
  exact {
    le := fun b w q => by rw [upd_ne (ne_of_none q hp.1)]; exact f.le b w q
    z0 := f.z0
    nw := f.nw
    kp := fun b w q n => by rw [upd_ne (ne_of_none q hp.2.1)]; exact f.kp b w q n
    dr := by
      have h := f.dr
      have g := hp.2.2.2
      revert h g
      cases G.M.D with
      | none => intro _ _; trivial
      | some x =>
        obtain ⟨d, l, c⟩ := x
        intro h g
        exact ⟨h.1.off g, h.2⟩
    tb := Tb.upd f.tb hoo (hw.nx hoo)
    zt := f.zt
    h0 := f.h0
    len := by rw [List.length_set]; exact f.len
    sh := fun j w e2 => by
      rcases set_at e2 with ⟨_, z⟩ | ⟨_, e2⟩
      · cases z
      · exact f.sh j w e2
    ow := fun j w e2 => by
      rcases set_at e2 with ⟨hj, z⟩ | ⟨hj, e2⟩
      · cases z
        subst hj
        exact ⟨a, h, hp, ow⟩
      · obtain ⟨b, h1, h2, h3⟩ := f.ow j w e2
        have hb : b ≠ a := fun z => hj (f.inj j i a w t e2 e (by rw [h1, z]) h)
        exact ⟨b, h1, h2, h3.mono (fun _ _ q => q) fun o q => by rw [upd_ne hb]; exact q⟩
    inj := fun j k b t' u' e1 e2 h1 h2 => by
      rcases set_at e1 with ⟨n1, z1⟩ | ⟨n1, e1⟩
      · rcases set_at e2 with ⟨n2, z2⟩ | ⟨n2, e2⟩
        · rw [n1, n2]
        · rw [n1] at h1 ⊢
          exact f.inj i k b t u' e e2 h1 h2
      · rcases set_at e2 with ⟨n2, z2⟩ | ⟨n2, e2⟩
        · rw [n2] at h2 ⊢
          exact f.inj j i b t' t e1 e h1 h2
        · exact f.inj j k b t' u' e1 e2 h1 h2
    px := fun b w q => by
      obtain ⟨h1, h2⟩ := f.px b w q
      have hb : b ≠ a := ne_of_none q hp.2.2.1
      exact ⟨by rw [upd_ne hb]; exact h1, h2⟩ }
/-- a thing that is laid by for a while -/
theorem Fm.lay (f : Fm G px Z H σ s) {a : Addr} {o : HO} (hp : Pv G px Z a) (hn : NotOw σ s a) (ho : H a = some o) (nt : NT o := by trivial) : Fm G (upd px a o) Z H σ s where
  toCore := f.toCore
  len := f.len
  sh := f.sh
  ow := fun i t e => by
    obtain ⟨b, h1, h2, h3⟩ := f.ow i t e
    have hb : b ≠ a := fun z => hn i t e (by rw [h1, z])
    exact ⟨b, h1, ⟨h2.1, h2.2.1, by rw [upd_ne hb]; exact h2.2.2.1, h2.2.2.2⟩, h3⟩
  inj := f.inj
  px := fun b u e => by
    by_cases hb : b = a
    · subst hb
      rw [upd_same] at e
      cases e
      exact ⟨ho, hp.1, hp.2.1, hp.2.2.2, nt⟩
    · rw [upd_ne hb] at e
      exact f.px b u e
/-- and taken up again -/
theorem Fm.unlay (f : Fm G (upd px a o) Z H σ s) (hn : px a = none) : Fm G px Z H σ s ∧ Pv G px Z a ∧ NotOw σ s a ∧ H a = some o := by
  obtain ⟨h1, h2, h3, h4, _⟩ := f.px a o upd_same
  refine ⟨⟨f.toCore, f.len, f.sh, fun i t e => ?_, f.inj, fun b u e => ?_⟩, ⟨h2, h3, hn, h4⟩, fun i t e q => ?_, h1⟩
  · obtain ⟨b, g1, g2, g3⟩ := f.ow i t e
    have hb : b ≠ a := fun z => by
      have := g2.2.2.1
      rw [z, upd_same] at this
      cases this
    have g4 := g2.2.2.1
    rw [upd_ne hb] at g4
    exact ⟨b, g1, ⟨g2.1, g2.2.1, g4, g2.2.2.2⟩, g3⟩
  · exact f.px b u (by rw [upd_ne (ne_of_none e hn)]; exact e)
  · obtain ⟨b, g1, g2, g3⟩ := f.ow i t e
    rw [q] at g1
    cases g1
    have := g2.2.2.1
    rw [upd_same] at this
    cases this
/-- the laid thing is changed -/
theorem Fm.relay {a : Addr} {o o' : HO} (f : Fm G (upd px a o) Z H σ s) (hn : px a = none) (hx : ¬ xob o := by exact id) (nt : NT o' := by trivial) : Fm G (upd px a o') Z (upd H a o') σ s := by
  obtain ⟨f0, hp, hno, ha⟩ := f.unlay hn
  refine Fm.lay (o := o') ?_ hp hno upd_same nt
  exact {
    le := fun b w q => by rw [upd_ne (ne_of_none q hp.1)]; exact f0.le b w q
    z0 := f0.z0
    nw := f0.nw
    kp := fun b w q n => by rw [upd_ne (ne_of_none q hp.2.1)]; exact f0.kp b w q n
    dr := by
      have h := f0.dr
      have g := hp.2.2.2
      revert h g
      cases G.M.D with
      | none => intro _ _; trivial
      | some x =>
        obtain ⟨d, l, c⟩ := x
        intro h g
        exact ⟨h.1.off g, h.2⟩
    tb := Tb.upd f0.tb ha hx
    zt := f0.zt
    h0 := f0.h0
    len := f0.len
    sh := f0.sh
    ow := fun j w e2 => by
      obtain ⟨b, h1, h2, h3⟩ := f0.ow j w e2
      have hb : b ≠ a := fun z => hno j w e2 (by rw [h1, z])
      exact ⟨b, h1, h2, h3.mono (fun _ _ q => q) fun o q => by rw [upd_ne hb]; exact q⟩
    inj := f0.inj
    px := fun b w q => by
      obtain ⟨h1, h2⟩ := f0.px b w q
      have hb : b ≠ a := ne_of_none q hp.2.2.1
      exact ⟨by rw [upd_ne hb]; exact h1, h2⟩ }
/-- a new object, one's own -/
theorem Fm.mute (f : Fm G px Z H σ s) {p : Addr} {o : HO} (n : H p = none) : Fm G px Z (upd H p o) σ s ∧ Pv G px Z p ∧ NotOw σ s p := by
  refine ⟨f.grow (Gw.mute f.le n), ⟨?_, ?_, ?_, f.dr.offN n⟩, fun i t e q => ?_⟩
  · cases e : Z p with
    | none => rfl
    | some u => rw [f.le p u e] at n; cases n
  · exact f.kp.back (f.dr.offN n).not n
  · cases e : px p with
    | none => rfl
    | some u => rw [(f.px p u e).1] at n; cases n
  · obtain ⟨b, h1, h2, h3⟩ := f.ow i t e
    rw [q] at h1
    cases h1
    obtain ⟨w, hw⟩ := h3.at
    rw [n] at hw
    cases hw
theorem Fm.new (f : Fm G px Z H σ s) {p : Addr} {o : HO} (n : H p = none) (nt : NT o := by trivial) : Same Z (upd Z p o) ∧ Fm G px (upd Z p o) (upd H p o) σ s := by
  have g := Gw.new (o := o) f.le n nt
  exact ⟨g.zz, f.grow g⟩
end
/-! ### readings over trees -/
abbrev K3 := T → S3 → Prop
abbrev TE3 := S3 → K3 → Prop
abbrev TT3 := S3 → (Bool → S3 → Prop) → Prop
abbrev TA3 := S3 → (List T → S3 → Prop) → Prop
abbrev XK3 := Nat → List T → Prop
structure Ends3 where
  nx : S3 → Prop
  rt : T → Prop
  bk : S3 → Prop := fun _ => False
  ct : S3 → Prop := fun _ => False
  rq : T → T → Prop := fun _ _ => False
abbrev TS3 := Ends3 → S3 → Prop
abbrev Sp3 := List T → (T → Prop) → XK3 → Prop
def up (G : Gh) (te : TE3) : TE := fun σ H Q => ∃ px Z s Q3, Fm G px Z H σ s ∧ te s Q3 ∧ ∀ t s', Q3 t s' → ∀ v Z' H', Same Z Z' → Fm G px Z' H' σ s' → Rp G.M Z' t v → Q v H'
def upF (G : Gh) (te : TE3) : TE := fun σ H Q => ∃ px Z s Q3, Fm G px Z H σ s ∧ te s Q3 ∧ ∀ t s', Q3 t s' → ∀ a Z' H', Same Z Z' → Fm G px Z' H' σ s' → Pv G px Z' a → NotOw σ s' a → Ow G.M G.q Z' H' t a → Q (.ref a) H'
def upT (G : Gh) (tt : TT3) : TT := fun σ H Q => ∃ px Z s Q3, Fm G px Z H σ s ∧ tt s Q3 ∧ ∀ b s', Q3 b s' → ∀ Z' H', Same Z Z' → Fm G px Z' H' σ s' → Q b H'
def upA (G : Gh) (ta : TA3) : TA := fun σ H Q => ∃ px Z s Q3, Fm G px Z H σ s ∧ ta s Q3 ∧ ∀ ts s', Q3 ts s' → ∀ vs Z' H', Same Z Z' → Fm G px Z' H' σ s' → RpL G.M Z' ts vs → Q vs H'
structure EndsOk (G : Gh) (px Z : Hp) (D3 : Ends3) (D : Ends) : Prop where
  nx : ∀ s', D3.nx s' → ∀ σ' Z' H', Same Z Z' → Fm G px Z' H' σ' s' → D.nx σ' H'
  rt : ∀ t, D3.rt t → ∀ v Z' H', Same Z Z' → Core G Z' H' → Rp G.M Z' t v → D.rt v H'
  bk : ∀ s', D3.bk s' → ∀ σ' Z' H', Same Z Z' → Fm G px Z' H' σ' s' → D.bk σ' H'
  ct : ∀ s', D3.ct s' → ∀ σ' Z' H', Same Z Z' → Fm G px Z' H' σ' s' → D.ct σ' H'
  rq : ∀ y u, D3.rq y u → ∀ v Z' H' p, Same Z Z' → Core G Z' H' → Rp G.M Z' y v → G.q = some p → Z' p = none → Ow G.M G.q Z' H' u p → D.rt v H'
def upS (G : Gh) (ts : TS3) : TS := fun D σ H => ∃ px Z s D3, Fm G px Z H σ s ∧ ts D3 s ∧ EndsOk G px Z D3 D
theorem EndsOk.mono {G : Gh} {px Z Z' : Hp} {D3 : Ends3} {D : Ends} (h : EndsOk G px Z D3 D) (e : Same Z Z') : EndsOk G px Z' D3 D :=
  ⟨fun s q σ Z2 H2 e2 => h.nx s q σ Z2 H2 (e.trans e2), fun t q v Z2 H2 e2 => h.rt t q v Z2 H2 (e.trans e2), fun s q σ Z2 H2 e2 => h.bk s q σ Z2 H2 (e.trans e2), fun s q σ Z2 H2 e2 => h.ct s q σ Z2 H2 (e.trans e2), fun y u q v Z2 H2 p e2 => h.rq y u q v Z2 H2 p (e.trans e2)⟩
theorem PE.imp {X : Cx} {e : Expr} {t t' : TE} (h : PE X e t) (i : ∀ σ H Q, t' σ H Q → t σ H Q) : PE X e t' := ⟨fun pins s σ H Q I q => h.run pins s σ H Q I (i σ H Q q)⟩
theorem PT.imp {X : Cx} {e : Expr} {t t' : TT} (h : PT X e t) (i : ∀ σ H Q, t' σ H Q → t σ H Q) : PT X e t' := ⟨fun pins s σ H Q I q => h.run pins s σ H Q I (i σ H Q q)⟩
theorem PW.imp {X : Cx} {e : Expr} {t t' : TT} (h : PW X e t) (i : ∀ σ H Q, t' σ H Q → t σ H Q) : PW X e t' := ⟨fun w pins s σ H Q I q => h.run w pins s σ H Q I (i σ H Q q)⟩
theorem PA.imp {X : Cx} {e : List Expr} {t t' : TA} (h : PA X e t) (i : ∀ σ H Q, t' σ H Q → t σ H Q) : PA X e t' := ⟨fun p pins s σ H Q I q => h.run p pins s σ H Q I (i σ H Q q)⟩
theorem PS.imp {X : Cx} {e : Stmt} {t t' : TS} (h : PS X e t) (i : ∀ D σ H, t' D σ H → t D σ H) : PS X e t' := ⟨fun pins s σ H D I q => h.run pins s σ H D I (i D σ H q)⟩
theorem PSs.imp {X : Cx} {e : List Stmt} {t t' : TS} (h : PSs X e t) (i : ∀ D σ H, t' D σ H → t D σ H) : PSs X e t' := ⟨fun pins s σ H D I q => h.run pins s σ H D I (i D σ H q)⟩
/-- fresh things are known to all from now on -/
theorem froz {X : Cx} {G : Gh} {e : Expr} {te : TE3} (h : PE X e (upF G te)) : PE X e (up G te) := PE.imp h fun σ H Q ⟨px, Z, s, Q3, f, q, k⟩ =>
  ⟨px, Z, s, Q3, f, q, fun t s' q3 a Z' H' e' f' hp hn ow => by
    obtain ⟨o, ho⟩ := ow.at
    exact k t s' q3 (.ref a) (upd Z' a o) H' (e'.trans (Same.new hp.1)) (f'.freeze hp hn ho (ow.nt ho)) (ow.rp (Same.new hp.1) ho upd_same)⟩
end G69
namespace G69
open PySem PySem.Spec PyProof.Rows L2
/-! ### expressions over trees -/
def tVar3 (i : Nat) : TE3 := fun s Q => match s[i]? with
  | some (.sh t) => Q t s
  | some (.ow t) => Q t (s.set i (.sh t))
  | _ => False
def tC3 (t : T) : TE3 := fun s Q => Q t s
abbrev F2 := T → T → (T → Prop) → Prop
abbrev F1 := T → (T → Prop) → Prop
abbrev FN := List T → (T → Prop) → Prop
def tBin (f : F2) (ta tb : TE3) : TE3 := fun s Q => ta s fun x s1 => tb s1 fun y s2 => f x y fun t => Q t s2
def tUn3 (f : F1) (ta : TE3) : TE3 := fun s Q => ta s fun x s1 => f x fun t => Q t s1
def tN (f : FN) (ta : TA3) : TE3 := fun s Q => ta s fun ts s1 => f ts fun t => Q t s1
def aNil : TA3 := fun s Q => Q [] s
def aCons (te : TE3) (ta : TA3) : TA3 := fun s Q => te s fun t s1 => ta s1 fun ts s2 => Q (t :: ts) s2
/-- what comes out of a step by values -/
def Res (M : Mo) (Z H : Hp) (t : T) (Q : VK) : Prop := ∀ v Z' H', Gw Z H Z' H' → Rp M Z' t v → Q v H'
def OpL (r : R2) (M : Mo) (f : F2) : Prop := ∀ (Z H : Hp) (x y : V) (tx ty : T) (P : T → Prop) (Q : VK), Same Z H → Rp M Z tx x → Rp M Z ty y → f tx ty P → (∀ t, P t → Res M Z H t Q) → r x y H Q
def UnL (r : V → Hp → VK → Prop) (M : Mo) (f : F1) : Prop := ∀ (Z H : Hp) (x : V) (tx : T) (P : T → Prop) (Q : VK), Same Z H → Rp M Z tx x → f tx P → (∀ t, P t → Res M Z H t Q) → r x H Q
def CaL (r : List V → Hp → VK → Prop) (M : Mo) (f : FN) : Prop := ∀ (Z H : Hp) (vs : List V) (ts : List T) (P : T → Prop) (Q : VK), Same Z H → RpL M Z ts vs → f ts P → (∀ t, P t → Res M Z H t Q) → r vs H Q
def rOr (r q : R2) : R2 := fun x y H Q => r x y H Q ∨ q x y H Q
theorem opOr {X : Cx} {f : Value → Value → Sem Value} {r q : R2} (h : OpR X f r) (g : OpR X f q) : OpR X f (rOr r q) := fun pins s σ H x y v u Q I rx ry z => z.elim (h pins s σ H x y v u Q I rx ry) (g pins s σ H x y v u Q I rx ry)
def rOrN (r q : List V → Hp → VK → Prop) : List V → Hp → VK → Prop := fun xs H Q => r xs H Q ∨ q xs H Q
theorem caOr {X : Cx} {f : Value} {r q : List V → Hp → VK → Prop} (h : CallR X f r) (g : CallR X f q) : CallR X f (rOrN r q) := fun pins s σ H x v Q I rx z => z.elim (h pins s σ H x v Q I rx) (g pins s σ H x v Q I rx)
section
variable {M : Mo} {Z H : Hp} {Q : VK}
/-- the heap as it is -/
theorem Res.same {t : T} {v : V} (h : Res M Z H t Q) (l : Same Z H) (r : Rp M Z t v) : Q v H := h v Z H (Gw.rfl' l) r
/-- a new object -/
theorem Res.made {t : T} {o : HO} (h : Res M Z H t Q) (l : Same Z H) {p : Addr} (n : H p = none) (r : Same Z (upd Z p o) → (upd Z p o) p = some o → Rp M (upd Z p o) t (.ref p)) (nt : NT o := by trivial) : Q (.ref p) (upd H p o) := by
  have g := Gw.new (o := o) l n nt
  exact h _ _ _ g (r g.zz upd_same)
end
/-- a display -/
def fewB : List T → Nat → Bool
  | [], _ => true
  | _ :: _, 0 => false
  | _ :: ts, n + 1 => fewB ts n
theorem fewB_le : ∀ (ts : List T) (n : Nat), fewB ts n = true → ts.length ≤ n
  | [], _, _ => Nat.zero_le _
  | _ :: ts, n + 1, h => Nat.succ_le_succ (fewB_le ts n h)
def mkTup : FN := fun ts P => match fewB ts 1000 with
  | true => P (.tup ts)
  | false => False
def mkLst : FN := fun ts P => match fewB ts 1000 with
  | true => P (.lst ts)
  | false => False
theorem mkTup.out {ts : List T} {P : T → Prop} (h : mkTup ts P) : ts.length ≤ sizeLine ∧ P (.tup ts) := by
  unfold mkTup at h
  split at h
  · rename_i e
    exact ⟨Nat.le_trans (fewB_le _ _ e) (by decide), h⟩
  · exact h.elim
theorem mkLst.out {ts : List T} {P : T → Prop} (h : mkLst ts P) : ts.length ≤ sizeLine ∧ P (.lst ts) := by
  unfold mkLst at h
  split at h
  · rename_i e
    exact ⟨Nat.le_trans (fewB_le _ _ e) (by decide), h⟩
  · exact h.elim
section
variable {X : Cx} {G : Gh} {a b e : Expr} {es : List Expr} {ta tb te : TE3} {tA : TA3} {pos : Pos}
theorem q_var (i : Nat) {x : Str} (hN : X.N[i]? = some x := by rfl) (hv : Vis X.env.scope x := by first | exact Or.inl rfl | exact Or.inr (Or.inl rfl) | exact Or.inr (Or.inr rfl)) (hd : (x == ("__debug__" : Str)) = false := by decide)
    (hcd : (x == ("__classdict__" : Str)) = false := by decide) : PE X (.Name x pos) (up G (tVar3 i)) := PE.imp (pv i hN hv hd hcd) fun σ H Q ⟨px, Z, s, Q3, f, h, k⟩ => by
  unfold tVar3 at h
  split at h
  · rename_i t e
    obtain ⟨v, e1, r⟩ := f.sh i t e
    exact ⟨v, e1, k t s h v Z H (fun _ _ q => q) f r⟩
  · rename_i t e
    obtain ⟨a, e1, hp, ow⟩ := f.ow i t e
    obtain ⟨o, ho⟩ := ow.at
    have f1 := (f.drop i).freeze hp (f.dropNot e e1) ho (ow.nt ho)
    have r1 := ow.rp (Same.new hp.1) ho upd_same
    have f2 := f1.shAt e1 r1
    rw [List.set_set] at f2
    exact ⟨_, e1, k t _ h _ _ H (Same.new hp.1) f2 r1⟩
  · exact h.elim
theorem q_c {v : V} {t : T} (h : PE X e (tC v)) (r : ∀ M Z, Rp M Z t v) : PE X e (up G (tC3 t)) := PE.imp h fun σ H Q ⟨px, Z, s, Q3, f, h, k⟩ => k t s h v Z H (fun _ _ q => q) f (r _ _)
theorem q_int {i : Int} {j : Nat} : PE X (.Constant (.int i) j pos) (up G (tC3 (.int i))) := q_c pe_int fun _ _ => .int _
theorem q_bl {b : Bool} {j : Nat} : PE X (.Constant (.bool b) j pos) (up G (tC3 (.bl b))) := q_c pe_bl fun _ _ => .bl _
theorem q_non {j : Nat} : PE X (.Constant .none j pos) (up G (tC3 .non)) := q_c pe_non fun _ _ => .non
theorem q_str {z : Str} {j : Nat} (hz : z.length ≤ sizeLine := by decide) : PE X (.Constant (.str z) j pos) (up G (tC3 (.str z))) := q_c pe_str fun _ _ => .str hz
/-- a module's number or text -/
theorem q_gi {x : Str} {i : Int} {u : Value} (hg : Gl X x) (hm : X.mg x = some u) (r : RelV (.int i) u) (hd : (x == ("__debug__" : Str)) = false := by decide) : PE X (.Name x pos) (up G (tC3 (.int i))) := q_c (pe_glob hg hm r hd) fun _ _ => .int _
theorem q_gs {x : Str} {z : Str} {u : Value} (hg : Gl X x) (hm : X.mg x = some u) (r : RelV (.str z) u) (hz : z.length ≤ sizeLine := by decide) (hd : (x == ("__debug__" : Str)) = false := by decide) : PE X (.Name x pos) (up G (tC3 (.str z))) := q_c (pe_glob hg hm r hd) fun _ _ => .str hz
theorem up_bin {r : R2} {f : F2} (hl : OpL r G.M f) {σ : L2.St} {H : Hp} {Q : VK} (h : up G (tBin f ta tb) σ H Q) : tOp r (up G ta) (up G tb) σ H Q := by
  obtain ⟨px, Z, s, Q3, fm, h, k⟩ := h
  refine ⟨px, Z, s, _, fm, h, fun x s1 hb1 v Z1 H1 e1 f1 r1 => ⟨px, Z1, s1, _, f1, hb1, fun y s2 hf w Z2 H2 e2 f2 r2 => ?_⟩⟩
  exact hl Z2 H2 v w x y _ Q f2.le (r1.mono e2) r2 hf fun t p u Z3 H3 g r3 => k t s2 p u Z3 H3 (e1.trans (e2.trans g.zz)) (f2.grow g) r3
theorem q_op {op : Operator} {r : R2} {f : F2} (ho : OpR X (binaryOp op) r) (hl : OpL r G.M f) (ha : PE X a (up G ta)) (hb : PE X b (up G tb)) : PE X (.BinOp a op b pos) (up G (tBin f ta tb)) :=
  PE.imp (pe_op ho ha hb) fun _ _ _ h => up_bin hl h
theorem q_cmp {op : CmpOp} {r : R2} {f : F2} (ho : OpR X (compareOp op) r) (hl : OpL r G.M f) (ha : PE X a (up G ta)) (hb : PE X b (up G tb)) (hm : behindInMarks op b = false) : PE X (.Compare a [op] [b] pos) (up G (tBin f ta tb)) :=
  PE.imp (pe_cmpR ho ha hb hm) fun _ _ _ h => up_bin hl h
theorem q_ix {r : R2} {f : F2} (ho : IxR X r) (hl : OpL r G.M f) (ha : PE X a (up G ta)) (hb : PE X b (up G tb)) (hs : PlainIx b) : PE X (.Subscript a b pos) (up G (tBin f ta tb)) :=
  PE.imp (pe_ix ho ha hb hs) fun _ _ _ h => up_bin hl h
theorem q_un {op : UnaryOp} {r : V → Hp → VK → Prop} {f : F1} (ho : UnR X (unaryOp op) r) (hl : UnL r G.M f) (ha : PE X a (up G ta)) : PE X (.UnaryOp op a pos) (up G (tUn3 f ta)) :=
  PE.imp (pe_un ho ha) fun σ H Q ⟨px, Z, s, Q3, fm, h, k⟩ => ⟨px, Z, s, _, fm, h, fun x s1 hf v Z1 H1 e1 f1 r1 => hl Z1 H1 v x _ Q f1.le r1 hf fun t p u Z3 H3 g r3 => k t s1 p u Z3 H3 (e1.trans g.zz) (f1.grow g) r3⟩
theorem qa_nil : PA X [] (upA G aNil) := PA.imp pa_nil fun σ H Q ⟨px, Z, s, Q3, fm, h, k⟩ => k [] s h [] Z H (fun _ _ q => q) fm .nil
theorem qa_cons (ha : PE X e (up G te)) (hr : PA X es (upA G tA)) (hs : starEach (e :: es) X.env = (false, eval e X.env) :: starEach es X.env := by rfl) : PA X (e :: es) (upA G (aCons te tA)) :=
  PA.imp (pa_cons ha hr hs) fun σ H Q ⟨px, Z, s, Q3, fm, h, k⟩ => ⟨px, Z, s, _, fm, h, fun x s1 hb1 v Z1 H1 e1 f1 r1 => ⟨px, Z1, s1, _, f1, hb1, fun ts s2 hq vs Z2 H2 e2 f2 r2 => k (x :: ts) s2 hq (v :: vs) Z2 H2 (e1.trans e2) f2 (.cons (r1.mono e2) r2)⟩⟩
theorem q_tup {x1 : Nat} (h : PA X es (upA G tA)) : PE X (.Tuple es x1 pos) (up G (tN mkTup tA)) :=
  PE.imp (pe_tup h) fun σ H Q ⟨px, Z, s, Q3, fm, h, k⟩ => ⟨px, Z, s, _, fm, h, fun ts s1 hf vs Z1 H1 e1 f1 r1 => by
    obtain ⟨hlen, hf⟩ := mkTup.out hf
    refine ⟨by rw [← r1.len]; exact hlen, fun p np => ?_⟩
    obtain ⟨e2, f2⟩ := f1.new (o := .tup vs) np
    exact k (.tup ts) s1 hf (.ref p) _ _ (e1.trans e2) f2 (.tup upd_same hlen (r1.mono e2))⟩
theorem qf_lst (h : PA X es (upA G tA)) : PE X (.List es pos) (upF G (tN mkLst tA)) :=
  PE.imp (pe_lst h) fun σ H Q ⟨px, Z, s, Q3, fm, h, k⟩ => ⟨px, Z, s, _, fm, h, fun ts s1 hf vs Z1 H1 e1 f1 r1 => by
    obtain ⟨hlen, hf⟩ := mkLst.out hf
    refine ⟨by rw [← r1.len]; exact hlen, fun p np => ?_⟩
    obtain ⟨f2, hp, hno⟩ := f1.mute (o := .lst vs) np
    exact k (.lst ts) s1 hf p Z1 _ e1 f2 hp hno ⟨vs, upd_same, hlen, r1⟩⟩
end
end G69
namespace G69
open PySem PySem.Spec PyProof.Rows L2
/-! ### operators by values -/
mutual
def T.toD : T → PyData
  | .non => .none
  | .bl b => .bool b
  | .int i => .int i
  | .str z => .str z
  | .lst ts => .list (toDs ts)
  | .tup ts => .tuple (toDs ts)
  | .ty _ => .dict []
  | .dic _ _ => .dict []
  | .ins _ _ => .dict []
  | .err _ _ => .dict []
  | .drw => .dict []
  | .scr _ => .dict []
  | .ob _ => .dict []
def toDs : List T → List PyData
  | [] => []
  | t :: ts => t.toD :: toDs ts
end
def okD (t : T) : Bool := SeqAt.shaped t.toD
def eqT (x y : T) : Bool := PyData.eqv x.toD y.toD
section
variable {M : Mo} {Z H : Hp}
mutual
theorem Rp.dp (l : Same Z H) : ∀ {t : T} {v : V}, Rp M Z t v → t.toD.canLay0 = true → Dp M.K H v t.toD
  | _, _, .non, _ => .non
  | _, _, .bl b, _ => .bl b
  | _, _, .int i, _ => .int i
  | _, _, .str h, _ => .str _
  | _, _, .lst h n r, q => .lst (.inl (.inl (l _ _ h))) (RpL.dp l r q)
  | _, _, .tup h n r, q => .tup (.inl (.inl (l _ _ h))) (RpL.dp l r q)
  | _, _, .ty n, q => absurd q (by simp [T.toD, PyData.canLay0])
  | _, _, .dic _ _ _, q => absurd q (by simp [T.toD, PyData.canLay0])
  | _, _, .ins _ _ _ _, q => absurd q (by simp [T.toD, PyData.canLay0])
  | _, _, .err _ _ _ _, q => absurd q (by simp [T.toD, PyData.canLay0])
  | _, _, .drw _, q => absurd q (by simp [T.toD, PyData.canLay0])
  | _, _, .scr _, q => absurd q (by simp [T.toD, PyData.canLay0])
  | _, _, .ob _, q => absurd q (by simp [T.toD, PyData.canLay0])
theorem RpL.dp (l : Same Z H) : ∀ {ts : List T} {vs : List V}, RpL M Z ts vs → PyData.canLayAll0 (toDs ts) = true → DpAll M.K H vs (toDs ts)
  | _, _, .nil, _ => .nil
  | _ :: _, _ :: _, .cons h r, q => by
    rw [toDs, PyData.canLayAll0, Bool.and_eq_true] at q
    rw [toDs]
    exact .cons (Rp.dp l h q.1) (RpL.dp l r q.2)
end
theorem Rp.dps (l : Same Z H) {t : T} {v : V} (r : Rp M Z t v) (q : okD t = true) : Dp M.K H v t.toD := r.dp l (by
  have q : (t.toD.canLay0 && decide (t.toD.depth ≤ 64)) = true := q
  rw [Bool.and_eq_true] at q
  exact q.1)
end
def fAdd : F2 := fun x y P => match x, y with
  | .int i, .int j => P (.int (i + j))
  | .str a, .str b => a.length + b.length ≤ sizeLine ∧ P (.str (a ++ b))
  | .lst xs, .lst ys => xs.length + ys.length ≤ sizeLine ∧ P (.lst (xs ++ ys))
  | .tup xs, .tup ys => xs.length + ys.length ≤ sizeLine ∧ P (.tup (xs ++ ys))
  | _, _ => False
def fSub : F2 := fun x y P => match x, y with
  | .int i, .int j => P (.int (i - j))
  | _, _ => False
def fMul : F2 := fun x y P => match x, y with
  | .int i, .int j => CMul i j ∧ P (.int (i * j))
  | .lst xs, .int k => (0 ≤ k ∧ k ≤ 1000 ∧ xs.length * k.toNat ≤ sizeLine) ∧ P (.lst (List.replicate k.toNat xs).flatten)
  | _, _ => False
def fMod : F2 := fun x y P => match x, y with
  | .int i, .int j => 0 < j ∧ P (.int (i % j))
  | _, _ => False
def fFdiv : F2 := fun x y P => match x, y with
  | .int i, .int j => CDiv i j ∧ P (.int (i / j))
  | _, _ => False
def fPow : F2 := fun x y P => match x, y with
  | .int i, .int j => CPow i j ∧ P (.int (i ^ j.toNat))
  | _, _ => False
def fNeg : F1 := fun x P => match x with
  | .int i => P (.int (-i))
  | _ => False
def fI2 (g : Int → Int → Bool) : F2 := fun x y P => match x, y with
  | .int i, .int j => P (.bl (g i j))
  | _, _ => False
def fLt : F2 := fI2 fun i j => decide (i < j)
def fLe : F2 := fI2 fun i j => decide (i ≤ j)
def fGt : F2 := fI2 fun i j => decide (j < i)
def fGe : F2 := fI2 fun i j => decide (j ≤ i)
def fEq : F2 := fun x y P => match x, y with
  | .int i, .int j => P (.bl (decide (i = j)))
  | .str a, .str b => P (.bl (decide (a = b)))
  | .bl a, .bl b => P (.bl (decide (a = b)))
  | .non, .non => P (.bl true)
  | .non, .str _ => P (.bl false)
  | .non, .int _ => P (.bl false)
  | .str _, .non => P (.bl false)
  | .int _, .non => P (.bl false)
  | x, y => (okD x = true ∧ okD y = true) ∧ P (.bl (eqT x y))
def fNe : F2 := fun x y P => match x, y with
  | .int i, .int j => P (.bl (!decide (i = j)))
  | .str a, .str b => P (.bl (!decide (a = b)))
  | .bl a, .bl b => P (.bl (!decide (a = b)))
  | .non, .non => P (.bl false)
  | .non, .str _ => P (.bl true)
  | .non, .int _ => P (.bl true)
  | .str _, .non => P (.bl true)
  | .int _, .non => P (.bl true)
  | x, y => (okD x = true ∧ okD y = true) ∧ P (.bl (!eqT x y))
/-- is None -/
def isN : T → Bool
  | .non => true
  | .ob v => decide (v = .non)
  | _ => false
def fIsN : F2 := fun x y P => match y with
  | .non => P (.bl (isN x))
  | _ => False
def fNotN : F2 := fun x y P => match y with
  | .non => P (.bl (!isN x))
  | _ => False
def flatT : T → Bool
  | .non => true
  | .bl _ => true
  | .int _ => true
  | .str _ => true
  | _ => false
def T.fv : T → V
  | .non => .non
  | .bl b => .bl b
  | .int i => .int i
  | .str z => .str z
  | _ => .non
def inT (x : T) (ys : List T) : Bool := ys.any fun y => eqV y.fv x.fv
def fIn : F2 := fun x y P => match y with
  | .str z => (match x with
    | .str w => (match w.cps.toList with
      | [c] => P (.bl (decide (c ∈ z.cps.toList)))
      | _ => False)
    | _ => False)
  | .lst ys => (flatT x = true ∧ ys.all flatT = true) ∧ P (.bl (inT x ys))
  | .tup ys => (flatT x = true ∧ ys.all flatT = true) ∧ P (.bl (inT x ys))
  | _ => False
def fNotIn : F2 := fun x y P => fIn x y fun t => match t with
  | .bl b => P (.bl (!b))
  | _ => False
def fIx : F2 := fun x y P => match x, y with
  | .lst xs, .int i => ∃ t, atI xs i = some t ∧ P t
  | .tup xs, .int i => ∃ t, atI xs i = some t ∧ P t
  | .str z, .int i => ∃ c, atI z.cps.toList i = some c ∧ P (.str ⟨#[c]⟩)
  | _, _ => False
section
variable {X : Cx} {M : Mo}
abbrev rStr2 : R2 := fun x y H Q => ∃ i j, x = .str i ∧ y = .str j ∧ i.length + j.length ≤ sizeLine ∧ Q (.str (i ++ j)) H
theorem str_app_len (a b : Str) : (a ++ b).length = a.length + b.length := by
  show (a.cps ++ b.cps).size = _
  rw [Array.size_append]
  rfl
theorem l_add (hK : X.K = M.K) : OpR X (binaryOp .Add) (rOr (rI0 fun i j => .int (i + j)) (rOr rStr2 (rOr rCat (rCatA M.K)))) := opOr op_add (opOr op_add_str (opOr op_cat (hK ▸ op_catA)))
theorem L_add : OpL (rOr (rI0 fun i j => .int (i + j)) (rOr rStr2 (rOr rCat (rCatA M.K)))) M fAdd := by
  intro Z H x y tx ty P Q l rx ry h k
  unfold fAdd at h
  split at h
  · cases rx; cases ry
    exact .inl ⟨_, _, rfl, rfl, (k _ h).same l (.int _)⟩
  · cases rx; cases ry
    exact .inr (.inl ⟨_, _, rfl, rfl, h.1, (k _ h.2).same l (.str (by rw [str_app_len]; exact h.1))⟩)
  · cases rx with
    | lst h1 n1 r1 => cases ry with
      | lst h2 n2 r2 =>
        refine .inr (.inr (.inl ⟨_, _, _, _, rfl, rfl, l _ _ h1, l _ _ h2, by rw [← r1.len, ← r2.len]; exact h.1, fun p np => ?_⟩))
        exact (k _ h.2).made l np fun e s => .lst s (by rw [List.length_append]; exact h.1) ((r1.app r2).mono e)
  · cases rx with
    | tup h1 n1 r1 => cases ry with
      | tup h2 n2 r2 =>
        refine .inr (.inr (.inr ⟨_, _, _, _, rfl, rfl, .inl (.inl (l _ _ h1)), .inl (.inl (l _ _ h2)), by rw [← r1.len, ← r2.len]; exact h.1, fun z => ?_, fun _ z => ?_, fun _ _ p np => ?_⟩))
        · subst z
          cases r1
          exact (k _ h.2).same l (.tup h2 n2 r2)
        · subst z
          cases r2
          have := k _ h.2
          rw [List.append_nil] at this
          exact this.same l (.tup h1 n1 r1)
        · exact (k _ h.2).made l np fun e s => .tup s (by rw [List.length_append]; exact h.1) ((r1.app r2).mono e)
  · exact h.elim
theorem L_sub : OpL (rI0 fun i j => .int (i - j)) M fSub := by
  intro Z H x y tx ty P Q l rx ry h k
  unfold fSub at h
  split at h
  · cases rx; cases ry
    exact ⟨_, _, rfl, rfl, (k _ h).same l (.int _)⟩
  · exact h.elim
theorem RpL.rep {Z : Hp} {ts : List T} {vs : List V} (r : RpL M Z ts vs) : ∀ n : Nat, RpL M Z (List.replicate n ts).flatten (List.replicate n vs).flatten
  | 0 => .nil
  | n + 1 => by
    rw [List.replicate_succ, List.replicate_succ, List.flatten_cons, List.flatten_cons]
    exact r.app (RpL.rep r n)
theorem l_mul : OpR X (binaryOp .Mult) (rOr (rI CMul fun i j => .int (i * j)) rRep) := opOr op_mul op_rep
theorem rep_len {α : Type} (l : List α) (n : Nat) : (List.replicate n l).flatten.length = l.length * n := by
  induction n with
  | zero => rfl
  | succ n ih => rw [List.replicate_succ, List.flatten_cons, List.length_append, ih, Nat.mul_succ, Nat.add_comm]
theorem L_mul : OpL (rOr (rI CMul fun i j => .int (i * j)) rRep) M fMul := by
  intro Z H x y tx ty P Q l rx ry h k
  unfold fMul at h
  split at h
  · cases rx; cases ry
    exact .inl ⟨_, _, rfl, rfl, h.1, (k _ h.2).same l (.int _)⟩
  · cases rx with
    | lst h1 n1 r1 =>
      cases ry
      obtain ⟨⟨g1, g2, g3⟩, g4⟩ := h
      refine .inr ⟨_, _, _, rfl, rfl, l _ _ h1, by omega, by omega, by rw [← r1.len]; exact g3, fun p np => ?_⟩
      exact (k _ g4).made l np fun e s => .lst s (by rw [rep_len]; exact g3) ((r1.rep _).mono e)
  · exact h.elim
theorem L_mod : OpL (rI (fun _ j => 0 < j) fun i j => .int (i % j)) M fMod := by
  intro Z H x y tx ty P Q l rx ry h k
  unfold fMod at h
  split at h
  · cases rx; cases ry
    exact ⟨_, _, rfl, rfl, h.1, (k _ h.2).same l (.int _)⟩
  · exact h.elim
theorem L_fdiv : OpL (rI CDiv fun i j => .int (i / j)) M fFdiv := by
  intro Z H x y tx ty P Q l rx ry h k
  unfold fFdiv at h
  split at h
  · cases rx; cases ry
    exact ⟨_, _, rfl, rfl, h.1, (k _ h.2).same l (.int _)⟩
  · exact h.elim
theorem L_pow : OpL (rI CPow fun i j => .int (i ^ j.toNat)) M fPow := by
  intro Z H x y tx ty P Q l rx ry h k
  unfold fPow at h
  split at h
  · cases rx; cases ry
    exact ⟨_, _, rfl, rfl, h.1, (k _ h.2).same l (.int _)⟩
  · exact h.elim
theorem L_neg : UnL (rU fun i => .int (-i)) M fNeg := by
  intro Z H x tx P Q l rx h k
  unfold fNeg at h
  split at h
  · cases rx
    exact ⟨_, rfl, (k _ h).same l (.int _)⟩
  · exact h.elim
theorem L_i2 {g : Int → Int → Bool} : OpL (rI0 fun i j => .bl (g i j)) M (fI2 g) := by
  intro Z H x y tx ty P Q l rx ry h k
  unfold fI2 at h
  split at h
  · cases rx; cases ry
    exact ⟨_, _, rfl, rfl, (k _ h).same l (.bl _)⟩
  · exact h.elim
theorem l_eq (hK : X.K = M.K) (hu : X.A.units + 64 < cLine) : OpR X (compareOp .Eq) (rOr rEq (rEqD M.K)) := opOr op_eq (hK ▸ op_eqD hu)
theorem l_ne (hK : X.K = M.K) (hu : X.A.units + 64 < cLine) : OpR X (compareOp .NotEq) (rOr rNe (rNeD M.K)) := opOr op_ne (hK ▸ op_neD hu)
theorem decV {a b : V} {p : Prop} [Decidable p] (h : a = b ↔ p) : decide (a = b) = decide p := decide_eq_decide.mpr h
theorem L_eq : OpL (rOr rEq (rEqD M.K)) M fEq := by
  intro Z H x y tx ty P Q l rx ry h k
  unfold fEq at h
  split at h
  · cases rx; cases ry
    refine .inl ⟨rfl, ?_⟩
    rw [decV ⟨V.int.inj, congrArg _⟩]
    exact (k _ h).same l (.bl _)
  · cases rx; cases ry
    refine .inl ⟨rfl, ?_⟩
    rw [decV ⟨V.str.inj, congrArg _⟩]
    exact (k _ h).same l (.bl _)
  · cases rx; cases ry
    refine .inl ⟨rfl, ?_⟩
    rw [decV ⟨V.bl.inj, congrArg _⟩]
    exact (k _ h).same l (.bl _)
  · cases rx; cases ry
    exact .inl ⟨rfl, (k _ h).same l (.bl _)⟩
  · cases rx; cases ry
    exact .inl ⟨rfl, (k _ h).same l (.bl _)⟩
  · cases rx; cases ry
    exact .inl ⟨rfl, (k _ h).same l (.bl _)⟩
  · cases rx; cases ry
    exact .inl ⟨rfl, (k _ h).same l (.bl _)⟩
  · cases rx; cases ry
    exact .inl ⟨rfl, (k _ h).same l (.bl _)⟩
  · obtain ⟨⟨h1, h2⟩, h⟩ := h
    exact .inr ⟨_, _, rx.dps l h1, ry.dps l h2, h1, h2, (k _ h).same l (.bl _)⟩
theorem L_ne : OpL (rOr rNe (rNeD M.K)) M fNe := by
  intro Z H x y tx ty P Q l rx ry h k
  unfold fNe at h
  split at h
  · cases rx; cases ry
    refine .inl ⟨rfl, ?_⟩
    rw [decV ⟨V.int.inj, congrArg _⟩]
    exact (k _ h).same l (.bl _)
  · cases rx; cases ry
    refine .inl ⟨rfl, ?_⟩
    rw [decV ⟨V.str.inj, congrArg _⟩]
    exact (k _ h).same l (.bl _)
  · cases rx; cases ry
    refine .inl ⟨rfl, ?_⟩
    rw [decV ⟨V.bl.inj, congrArg _⟩]
    exact (k _ h).same l (.bl _)
  · cases rx; cases ry
    exact .inl ⟨rfl, (k _ h).same l (.bl _)⟩
  · cases rx; cases ry
    exact .inl ⟨rfl, (k _ h).same l (.bl _)⟩
  · cases rx; cases ry
    exact .inl ⟨rfl, (k _ h).same l (.bl _)⟩
  · cases rx; cases ry
    exact .inl ⟨rfl, (k _ h).same l (.bl _)⟩
  · cases rx; cases ry
    exact .inl ⟨rfl, (k _ h).same l (.bl _)⟩
  · obtain ⟨⟨h1, h2⟩, h⟩ := h
    exact .inr ⟨_, _, rx.dps l h1, ry.dps l h2, h1, h2, (k _ h).same l (.bl _)⟩
theorem Rp.isN {Z : Hp} {t : T} {v : V} (r : Rp M Z t v) : decide (v = .non) = G69.isN t := by
  cases r <;> first | rfl | exact decide_eq_false (fun z => by cases z)
theorem L_isN : OpL (fun x y H Q => y = .non ∧ Q (.bl (decide (x = .non))) H) M fIsN := by
  intro Z H x y tx ty P Q l rx ry h k
  unfold fIsN at h
  split at h
  · cases ry
    refine ⟨rfl, ?_⟩
    rw [rx.isN]
    exact (k _ h).same l (.bl _)
  · exact h.elim
theorem L_notN : OpL (fun x y H Q => y = .non ∧ Q (.bl (!decide (x = .non))) H) M fNotN := by
  intro Z H x y tx ty P Q l rx ry h k
  unfold fNotN at h
  split at h
  · cases ry
    refine ⟨rfl, ?_⟩
    rw [rx.isN]
    exact (k _ h).same l (.bl _)
  · exact h.elim
theorem Rp.flat {Z : Hp} {t : T} {v : V} (r : Rp M Z t v) (h : flatT t = true) : v = t.fv ∧ flatV v = true := by
  cases r <;> first | exact ⟨rfl, rfl⟩ | exact absurd (show false = true from h) Bool.false_ne_true
theorem RpL.flat {Z : Hp} : ∀ {ts : List T} {vs : List V}, RpL M Z ts vs → ts.all flatT = true → vs = ts.map T.fv ∧ vs.all flatV = true
  | _, _, .nil, _ => ⟨rfl, rfl⟩
  | _, _, .cons h r, q => by
    rw [List.all_cons, Bool.and_eq_true] at q
    obtain ⟨a, b⟩ := h.flat q.1
    obtain ⟨c, d⟩ := RpL.flat r q.2
    exact ⟨by rw [List.map_cons, ← a, ← c], by rw [List.all_cons, b, d]; rfl⟩
abbrev rSgn : R2 := fun x y H Q => ∃ (c : Nat) (z : Str), x = .str ⟨#[c]⟩ ∧ y = .str z ∧ Q (.bl (decide (c ∈ z.cps.toList))) H
theorem l_in (hK : X.K = M.K) : OpR X (compareOp .In) (rOr rSgn (rIn M.K false)) := opOr op_in_sign (hK ▸ op_in_seq)
theorem one_sign {w : Str} {c : Nat} (h : w.cps.toList = [c]) : w = ⟨#[c]⟩ := by
  cases w with
  | mk a =>
    have : a = [c].toArray := by rw [← h, Array.toArray_toList]
    rw [this]
theorem inT_fv {x : T} {ys : List T} : inV x.fv (ys.map T.fv) = inT x ys := by
  unfold inV inT
  rw [List.any_map]
  rfl
theorem L_in : OpL (rOr rSgn (rIn M.K false)) M fIn := by
  intro Z H x y tx ty P Q l rx ry h k
  unfold fIn at h
  split at h
  · cases ry
    split at h
    · cases rx
      split at h
      · rename_i c e
        exact .inl ⟨c, _, by rw [one_sign e], rfl, (k _ h).same l (.bl _)⟩
      · exact h.elim
    · exact h.elim
  · cases ry with
    | lst h1 n1 r1 =>
      obtain ⟨⟨g1, g2⟩, h⟩ := h
      obtain ⟨rfl, f1⟩ := rx.flat g1
      obtain ⟨rfl, f2⟩ := r1.flat g2
      refine .inr ⟨_, _, rfl, .inl (.inl (.inl (l _ _ h1))), f1, f2, ?_⟩
      rw [inT_fv]
      exact (k _ h).same l (.bl _)
  · cases ry with
    | tup h1 n1 r1 =>
      obtain ⟨⟨g1, g2⟩, h⟩ := h
      obtain ⟨rfl, f1⟩ := rx.flat g1
      obtain ⟨rfl, f2⟩ := r1.flat g2
      refine .inr ⟨_, _, rfl, .inr (.inl (.inl (l _ _ h1))), f1, f2, ?_⟩
      rw [inT_fv]
      exact (k _ h).same l (.bl _)
  · exact h.elim
abbrev rNSgn : R2 := fun x y H Q => ∃ (c : Nat) (z : Str), x = .str ⟨#[c]⟩ ∧ y = .str z ∧ Q (.bl (!decide (c ∈ z.cps.toList))) H
theorem l_notin (hK : X.K = M.K) : OpR X (compareOp .NotIn) (rOr rNSgn (rIn M.K true)) := opOr op_notIn_sign (hK ▸ op_notIn_seq)
theorem L_notin : OpL (rOr rNSgn (rIn M.K true)) M fNotIn := by
  intro Z H x y tx ty P Q l rx ry h k
  unfold fNotIn fIn at h
  split at h
  · cases ry
    split at h
    · cases rx
      split at h
      · rename_i c e
        exact .inl ⟨c, _, by rw [one_sign e], rfl, (k _ h).same l (.bl _)⟩
      · exact h.elim
    · exact h.elim
  · cases ry with
    | lst h1 n1 r1 =>
      obtain ⟨⟨g1, g2⟩, h⟩ := h
      obtain ⟨rfl, f1⟩ := rx.flat g1
      obtain ⟨rfl, f2⟩ := r1.flat g2
      refine .inr ⟨_, _, rfl, .inl (.inl (.inl (l _ _ h1))), f1, f2, ?_⟩
      rw [inT_fv]
      exact (k _ h).same l (.bl _)
  · cases ry with
    | tup h1 n1 r1 =>
      obtain ⟨⟨g1, g2⟩, h⟩ := h
      obtain ⟨rfl, f1⟩ := rx.flat g1
      obtain ⟨rfl, f2⟩ := r1.flat g2
      refine .inr ⟨_, _, rfl, .inr (.inl (.inl (l _ _ h1))), f1, f2, ?_⟩
      rw [inT_fv]
      exact (k _ h).same l (.bl _)
  · exact h.elim
theorem atI_rp {Z : Hp} {ts : List T} {vs : List V} {i : Int} {t : T} (r : RpL M Z ts vs) (h : atI ts i = some t) : ∃ v, atI vs i = some v ∧ Rp M Z t v := by
  unfold atI at h ⊢
  rw [← r.len]
  cases e : ixN ts.length i with
  | none => rw [e] at h; cases h
  | some j =>
    rw [e] at h
    obtain ⟨v, h1, h2⟩ := r.get (i := j) h
    exact ⟨v, h1, h2⟩
theorem l_ix (hK : X.K = M.K) : IxR X (rIx M.K) := hK ▸ ix_seq
theorem L_ix : OpL (rIx M.K) M fIx := by
  intro Z H x y tx ty P Q l rx ry h k
  unfold fIx at h
  split at h
  · obtain ⟨t, h2, h⟩ := h
    cases rx with
    | lst h1 n1 r1 =>
      cases ry
      obtain ⟨v, e, r⟩ := atI_rp r1 h2
      exact .inl ⟨_, _, _, _, rfl, rfl, .inl (.inl (l _ _ h1)), e, (k _ h).same l r⟩
  · obtain ⟨t, h2, h⟩ := h
    cases rx with
    | tup h1 n1 r1 =>
      cases ry
      obtain ⟨v, e, r⟩ := atI_rp r1 h2
      exact .inr (.inl ⟨_, _, _, _, rfl, rfl, .inl (.inl (l _ _ h1)), e, (k _ h).same l r⟩)
  · obtain ⟨c, h2, h⟩ := h
    cases rx with
    | str hz =>
      cases ry
      exact .inr (.inr ⟨_, _, _, rfl, rfl, hz, h2, (k _ h).same l (.str (by show 1 ≤ sizeLine; decide))⟩)
  · exact h.elim
end
end G69
namespace G69
open PySem PySem.Spec PyProof.Rows L2
/-! ### tests, and, or, not, if -/
def If3 (b : Bool) (A B : Prop) : Prop := match b with
  | true => A
  | false => B
theorem If3.out {b : Bool} {A B : Prop} (h : If3 b A B) : if b = true then A else B := by
  cases b with
  | true => rw [if_pos rfl]; exact h
  | false => rw [if_neg Bool.false_ne_true]; exact h
/-- both ways -/
theorem if3 {p A B : Prop} [Decidable p] (h1 : p → A) (h2 : ¬ p → B) : If3 (decide p) A B := by
  by_cases h : p
  · rw [decide_eq_true h]; exact h1 h
  · rw [decide_eq_false h]; exact h2 h
theorem if3n {p A B : Prop} [Decidable p] (h1 : ¬ p → A) (h2 : p → B) : If3 (!decide p) A B := by
  by_cases h : p
  · rw [decide_eq_true h]; exact h2 h
  · rw [decide_eq_false h]; exact h1 h
theorem if3b {b : Bool} {A B : Prop} (h1 : b = true → A) (h2 : b = false → B) : If3 b A B := by
  cases b with
  | true => exact h1 rfl
  | false => exact h2 rfl
def fTru (t : T) (P : Bool → Prop) : Prop := match t with
  | .non => P false
  | .bl b => P b
  | .int i => P (i != 0)
  | .str z => P ((z.length : Int) != 0)
  | .lst ts => P (!ts.isEmpty)
  | .tup ts => P (!ts.isEmpty)
  | _ => False
def tTru (te : TE3) : TT3 := fun s Q => te s fun t s1 => fTru t fun b => Q b s1
def tBl (te : TE3) : TT3 := fun s Q => te s fun t s1 => match t with
  | .bl b => Q b s1
  | _ => False
def tAnd3 (a b : TT3) : TT3 := fun s Q => a s fun c s1 => If3 c (b s1 Q) (Q false s1)
def tOr3 (a b : TT3) : TT3 := fun s Q => a s fun c s1 => If3 c (Q true s1) (b s1 Q)
def tNot3 (a : TT3) : TT3 := fun s Q => a s fun c s1 => Q (!c) s1
def tAndE (ta tb : TE3) : TE3 := fun s Q => ta s fun x s1 => match x with
  | .bl c => If3 c (tb s1 Q) (Q (.bl false) s1)
  | _ => False
def tOrE (ta tb : TE3) : TE3 := fun s Q => ta s fun x s1 => match x with
  | .bl c => If3 c (Q (.bl true) s1) (tb s1 Q)
  | _ => False
def tNotE (ta : TE3) : TE3 := fun s Q => ta s fun x s1 => match x with
  | .bl c => Q (.bl (!c)) s1
  | _ => False
def tIfE (c : TT3) (a b : TE3) : TE3 := fun s Q => c s fun k s1 => If3 k (a s1 Q) (b s1 Q)
def tCh (f g : F2) (ta tb tc : TE3) : TE3 := fun s Q => ta s fun x s1 => tb s1 fun y s2 => f x y fun z => match z with
  | .bl k => If3 k (tc s2 fun w s3 => g y w fun t => Q t s3) (Q (.bl false) s2)
  | _ => False
theorem Same.isNil {M : Mo} {Z : Hp} {ts : List T} {vs : List V} (r : RpL M Z ts vs) : ts.isEmpty = vs.isEmpty := by cases r <;> rfl
section
variable {X : Cx} {G : Gh} {a b c e : Expr} {rest : List Expr} {ta tb tc te : TE3} {tA tB : TT3} {pos : Pos}
theorem q_tru (hK : X.K = G.M.K) (ha : PE X a (up G ta)) (he : ∀ whole, isTrue a X.env whole = (do let v ← whole; standAt a.pos; holding [v] (truthy v)) := by intro _; rfl) : PT X a (upT G (tTru ta)) :=
  PT.imp (pt_truth ha he) fun σ H Q ⟨px, Z, s, Q3, fm, h, k⟩ => ⟨px, Z, s, _, fm, h, fun t s1 ht v Z1 H1 e1 f1 r1 => by
    rw [hK]
    unfold fTru at ht
    split at ht
    · cases r1; exact ⟨_, rfl, k _ s1 ht Z1 H1 e1 f1⟩
    · cases r1; exact ⟨_, rfl, k _ s1 ht Z1 H1 e1 f1⟩
    · cases r1; exact ⟨_, rfl, k _ s1 ht Z1 H1 e1 f1⟩
    · cases r1 with
      | str hz => exact ⟨_, ⟨hz, rfl⟩, k _ s1 ht Z1 H1 e1 f1⟩
    · cases r1 with
      | lst h1 n r => exact ⟨_, .inl ⟨_, .inl (.inl (f1.le _ _ h1)), by rw [Same.isNil r]⟩, k _ s1 ht Z1 H1 e1 f1⟩
    · cases r1 with
      | tup h1 n r => exact ⟨_, .inr (.inl ⟨_, .inl (.inl (f1.le _ _ h1)), by rw [Same.isNil r]⟩), k _ s1 ht Z1 H1 e1 f1⟩
    · exact ht.elim⟩
theorem up_bl {σ : L2.St} {H : Hp} {Q : Bool → Hp → Prop} (h : upT G (tBl te) σ H Q) : up G te σ H (fun x H' => ∃ k, x = .bl k ∧ Q k H') := by
  obtain ⟨px, Z, s, Q3, fm, h, k⟩ := h
  refine ⟨px, Z, s, _, fm, h, fun t s1 ht v Z1 H1 e1 f1 r1 => ?_⟩
  split at ht
  · cases r1
    exact ⟨_, rfl, k _ s1 ht Z1 H1 e1 f1⟩
  · exact ht.elim
theorem q_val (ha : PE X a (up G ta)) (he : ∀ whole, isTrue a X.env whole = (do let v ← whole; standAt a.pos; holding [v] (truthy v)) := by intro _; rfl) : PT X a (upT G (tBl ta)) :=
  PT.imp (pt_val ha he) fun σ H Q h => up_bl h
theorem q_tcmp {op : CmpOp} {r : R2} {f : F2} (ho : OpR X (compareOp op) r) (hl : OpL r G.M f) (ha : PE X a (up G ta)) (hb : PE X b (up G tb)) (hm : behindInMarks op b = false) : PT X (.Compare a [op] [b] pos) (upT G (tBl (tBin f ta tb))) :=
  PT.imp (pt_cmpR ho ha hb hm) fun _ _ _ h => up_bin hl (up_bl h)
theorem q_not (ha : PT X a (upT G tA)) : PT X (.UnaryOp .Not a pos) (upT G (tNot3 tA)) :=
  PT.imp (pt_not ha) fun σ H Q ⟨px, Z, s, Q3, fm, h, k⟩ => ⟨px, Z, s, _, fm, h, fun c s1 hc Z1 H1 e1 f1 => k _ s1 hc Z1 H1 e1 f1⟩
theorem q_and1 (ha : PT X a (upT G tA)) : PW X (.BoolOp .And [a] pos) (upT G tA) := pw_and1 ha
theorem q_or1 (ha : PT X a (upT G tA)) : PW X (.BoolOp .Or [a] pos) (upT G tA) := pw_or1 ha
theorem q_and (ha : PT X a (upT G tA)) (hb : PW X (.BoolOp .And (b :: rest) pos) (upT G tB)) : PW X (.BoolOp .And (a :: b :: rest) pos) (upT G (tAnd3 tA tB)) :=
  PW.imp (pw_and ha hb) fun σ H Q ⟨px, Z, s, Q3, fm, h, k⟩ => ⟨px, Z, s, _, fm, h, fun c s1 hc Z1 H1 e1 f1 => by
    cases c with
    | true => rw [if_pos rfl]; exact ⟨px, Z1, s1, _, f1, hc, fun b s2 hb Z2 H2 e2 f2 => k b s2 hb Z2 H2 (e1.trans e2) f2⟩
    | false => rw [if_neg Bool.false_ne_true]; exact k _ s1 hc Z1 H1 e1 f1⟩
theorem q_or (ha : PT X a (upT G tA)) (hb : PW X (.BoolOp .Or (b :: rest) pos) (upT G tB)) : PW X (.BoolOp .Or (a :: b :: rest) pos) (upT G (tOr3 tA tB)) :=
  PW.imp (pw_or ha hb) fun σ H Q ⟨px, Z, s, Q3, fm, h, k⟩ => ⟨px, Z, s, _, fm, h, fun c s1 hc Z1 H1 e1 f1 => by
    cases c with
    | true => rw [if_pos rfl]; exact k _ s1 hc Z1 H1 e1 f1
    | false => rw [if_neg Bool.false_ne_true]; exact ⟨px, Z1, s1, _, f1, hc, fun b s2 hb Z2 H2 e2 f2 => k b s2 hb Z2 H2 (e1.trans e2) f2⟩⟩
theorem qe_and (ha : PE X a (up G ta)) (hb : PE X (.BoolOp .And (b :: rest) pos) (up G tb)) : PE X (.BoolOp .And (a :: b :: rest) pos) (up G (tAndE ta tb)) :=
  PE.imp (pe_and ha hb) fun σ H Q ⟨px, Z, s, Q3, fm, h, k⟩ => ⟨px, Z, s, _, fm, h, fun x s1 hc v Z1 H1 e1 f1 r1 => by
    split at hc
    · cases r1
      rename_i c
      refine ⟨c, rfl, ?_⟩
      cases c with
      | true => rw [if_pos rfl]; exact ⟨px, Z1, s1, _, f1, hc, fun t s2 hb w Z2 H2 e2 f2 r2 => k t s2 hb w Z2 H2 (e1.trans e2) f2 r2⟩
      | false => rw [if_neg Bool.false_ne_true]; exact k _ s1 hc _ Z1 H1 e1 f1 (.bl _)
    · exact hc.elim⟩
theorem qe_or (ha : PE X a (up G ta)) (hb : PE X (.BoolOp .Or (b :: rest) pos) (up G tb)) : PE X (.BoolOp .Or (a :: b :: rest) pos) (up G (tOrE ta tb)) :=
  PE.imp (pe_or ha hb) fun σ H Q ⟨px, Z, s, Q3, fm, h, k⟩ => ⟨px, Z, s, _, fm, h, fun x s1 hc v Z1 H1 e1 f1 r1 => by
    split at hc
    · cases r1
      rename_i c
      refine ⟨c, rfl, ?_⟩
      cases c with
      | true => rw [if_pos rfl]; exact k _ s1 hc _ Z1 H1 e1 f1 (.bl _)
      | false => rw [if_neg Bool.false_ne_true]; exact ⟨px, Z1, s1, _, f1, hc, fun t s2 hb w Z2 H2 e2 f2 r2 => k t s2 hb w Z2 H2 (e1.trans e2) f2 r2⟩
    · exact hc.elim⟩
theorem qe_one {op : BoolOp} (h : PE X a (up G ta)) : PE X (.BoolOp op [a] pos) (up G ta) := pe_one h
theorem qe_not (ha : PE X a (up G ta)) : PE X (.UnaryOp .Not a pos) (up G (tNotE ta)) :=
  PE.imp (pe_not ha) fun σ H Q ⟨px, Z, s, Q3, fm, h, k⟩ => ⟨px, Z, s, _, fm, h, fun x s1 hc v Z1 H1 e1 f1 r1 => by
    split at hc
    · cases r1
      exact ⟨_, rfl, k _ s1 hc _ Z1 H1 e1 f1 (.bl _)⟩
    · exact hc.elim⟩
theorem q_ifE (hc : PT X c (upT G tA)) (ha : PE X a (up G ta)) (hb : PE X b (up G tb)) : PE X (.IfExp c a b pos) (up G (tIfE tA ta tb)) :=
  PE.imp (pe_ifExp hc ha hb) fun σ H Q ⟨px, Z, s, Q3, fm, h, k⟩ => ⟨px, Z, s, _, fm, h, fun d s1 hd Z1 H1 e1 f1 => by
    cases d with
    | true => rw [if_pos rfl]; exact ⟨px, Z1, s1, _, f1, hd, fun t s2 hb w Z2 H2 e2 f2 r2 => k t s2 hb w Z2 H2 (e1.trans e2) f2 r2⟩
    | false => rw [if_neg Bool.false_ne_true]; exact ⟨px, Z1, s1, _, f1, hd, fun t s2 hb w Z2 H2 e2 f2 r2 => k t s2 hb w Z2 H2 (e1.trans e2) f2 r2⟩⟩
theorem up_ch {r r' : R2} {f g : F2} (hl : OpL r G.M f) (hl' : OpL r' G.M g) {σ : L2.St} {H : Hp} {Q : VK} (h : up G (tCh f g ta tb tc) σ H Q) : tChain r r' (up G ta) (up G tb) (up G tc) σ H Q := by
  obtain ⟨px, Z, s, Q3, fm, h, k⟩ := h
  refine ⟨px, Z, s, _, fm, h, fun x s1 hb1 v Z1 H1 e1 f1 r1 => ⟨px, Z1, s1, _, f1, hb1, fun y s2 hf w Z2 H2 e2 f2 r2 => ?_⟩⟩
  refine hl Z2 H2 v w x y _ _ f2.le (r1.mono e2) r2 hf fun t p u Z3 H3 g3 r3 => ?_
  have f3 := f2.grow g3
  split at p
  · cases r3
    rename_i kk
    refine ⟨kk, rfl, ?_⟩
    cases kk with
    | true =>
      rw [if_pos rfl]
      refine ⟨px, Z3, s2, _, f3, p, fun w' s3 hg u' Z4 H4 e4 f4 r4 => ?_⟩
      exact hl' Z4 H4 w u' y w' _ Q f4.le (r2.mono (g3.zz.trans e4)) r4 hg fun t p u Z5 H5 g5 r5 => k t s3 p u Z5 H5 (e1.trans (e2.trans (g3.zz.trans (e4.trans g5.zz)))) (f4.grow g5) r5
    | false =>
      rw [if_neg Bool.false_ne_true]
      exact k _ s2 p _ Z3 H3 (e1.trans (e2.trans g3.zz)) f3 (.bl _)
  · exact p.elim
theorem q_ch {op op' : CmpOp} {r r' : R2} {f g : F2} (ho : OpR X (compareOp op) r) (ho' : OpR X (compareOp op') r') (hl : OpL r G.M f) (hl' : OpL r' G.M g) (ha : PE X a (up G ta)) (hb : PE X b (up G tb)) (hc : PE X c (up G tc))
    (hm : lastMarks [op, op'] [b, c] = false := by with_unfolding_all rfl) : PE X (.Compare a [op, op'] [b, c] pos) (up G (tCh f g ta tb tc)) := PE.imp (pe_chain ho ho' ha hb hc hm) fun _ _ _ h => up_ch hl hl' h
theorem q_tch {op op' : CmpOp} {r r' : R2} {f g : F2} (ho : OpR X (compareOp op) r) (ho' : OpR X (compareOp op') r') (hl : OpL r G.M f) (hl' : OpL r' G.M g) (ha : PE X a (up G ta)) (hb : PE X b (up G tb)) (hc : PE X c (up G tc))
    (hm : lastMarks [op, op'] [b, c] = false := by with_unfolding_all rfl) : PT X (.Compare a [op, op'] [b, c] pos) (upT G (tBl (tCh f g ta tb tc))) := PT.imp (pt_chain ho ho' ha hb hc hm) fun _ _ _ h => up_ch hl hl' (up_bl h)
end
/-! ### slices -/
abbrev TO3 := S3 → (Option Int → S3 → Prop) → Prop
def oNo : TO3 := fun s Q => Q none s
def oSo (te : TE3) : TO3 := fun s Q => te s fun t s1 => match t with
  | .int i => Q (some i) s1
  | _ => False
def cutT (xs : List T) (lo hi : Option Int) : List T := (xs.drop (HT.sIx xs.length 0 lo)).take (HT.sIx xs.length xs.length hi - HT.sIx xs.length 0 lo)
def fSl (x : T) (lo hi : Option Int) (P : T → Prop) : Prop := match x with
  | .lst ts => P (.lst (cutT ts lo hi))
  | .tup ts => P (.tup (cutT ts lo hi))
  | .str z => P (.str (cutS z lo hi))
  | _ => False
def tSl3 (te : TE3) (tl th : TO3) : TE3 := fun s Q => te s fun x s1 => tl s1 fun lo s2 => th s2 fun hi s3 => fSl x lo hi fun t => Q t s3
theorem cutT_len (xs : List T) (lo hi : Option Int) : (cutT xs lo hi).length ≤ xs.length := by
  unfold cutT
  rw [List.length_take, List.length_drop]
  omega
theorem RpL.cut {M : Mo} {Z : Hp} {ts : List T} {vs : List V} {lo hi : Option Int} (r : RpL M Z ts vs) : RpL M Z (cutT ts lo hi) (cutV vs lo hi) := by
  unfold cutT cutV
  rw [← r.len]
  exact (r.drop _).take _
theorem cutS_len (z : Str) (lo hi : Option Int) : (cutS z lo hi).length ≤ z.length := by
  show (List.toArray _).size ≤ z.cps.size
  rw [List.size_toArray, List.length_take, List.length_drop, Array.length_toList]
  omega
def upO (G : Gh) (to : TO3) : TO := fun σ H Q => ∃ px Z s Q3, Fm G px Z H σ s ∧ to s Q3 ∧ ∀ o s', Q3 o s' → ∀ Z' H', Same Z Z' → Fm G px Z' H' σ s' → Q o H'
section
variable {X : Cx} {G : Gh} {e : Expr} {lo hi : Option Expr} {te : TE3} {tl th : TO3} {pos p2 : Pos}
theorem PO.imp {X : Cx} {e : Option Expr} {t t' : TO} (h : PO X e t) (i : ∀ σ H Q, t' σ H Q → t σ H Q) : PO X e t' := ⟨fun pins s σ H Q I q => h.run pins s σ H Q I (i σ H Q q)⟩
theorem qo_none : PO X none (upO G oNo) := PO.imp po_none fun σ H Q ⟨px, Z, s, Q3, fm, h, k⟩ => k none s h Z H (fun _ _ q => q) fm
theorem qo_some (h : PE X e (up G te)) : PO X (some e) (upO G (oSo te)) := PO.imp (po_some h) fun σ H Q ⟨px, Z, s, Q3, fm, h, k⟩ => ⟨px, Z, s, _, fm, h, fun t s1 ht v Z1 H1 e1 f1 r1 => by
  split at ht
  · cases r1
    exact ⟨_, rfl, k _ s1 ht Z1 H1 e1 f1⟩
  · exact ht.elim⟩
abbrev rSl3 (K : PySem.W.Frag) : V → Option Int → Option Int → Hp → VK → Prop := fun x lo hi H Q => rSlL K x lo hi H Q ∨ (rSlA K x lo hi H Q ∨ rSlS x lo hi H Q)
theorem l_sl {M : Mo} (hK : X.K = M.K) : SlR X (rSl3 M.K) := by
  rw [← hK]
  exact sl_list.or (sl_tupA.or sl_str)
theorem q_sl (hK : X.K = G.M.K) (he : PE X e (up G te)) (hl : PO X lo (upO G tl)) (hh : PO X hi (upO G th)) : PE X (.Subscript e (.Slice lo hi none p2) pos) (up G (tSl3 te tl th)) :=
  PE.imp (pe_slice (l_sl hK) he hl hh) fun σ H Q ⟨px, Z, s, Q3, fm, h, k⟩ => ⟨px, Z, s, _, fm, h, fun x s1 h1 v Z1 H1 e1 f1 r1 => ⟨px, Z1, s1, _, f1, h1, fun l s2 h2 Z2 H2 e2 f2 => ⟨px, Z2, s2, _, f2, h2, fun u s3 h3 Z3 H3 e3 f3 => by
    have r3 := r1.mono (e2.trans e3)
    have e13 := e1.trans (e2.trans e3)
    unfold fSl at h3
    split at h3
    · cases r3 with
      | lst g n r =>
        refine .inl ⟨_, _, rfl, .inl (.inl (f3.le _ _ g)), fun p np => ?_⟩
        obtain ⟨e4, f4⟩ := f3.new (o := .lst (cutV _ l u)) np
        refine k _ s3 h3 _ _ _ (e13.trans e4) f4 (.lst upd_same (Nat.le_trans (cutT_len _ _ _) n) ?_)
        exact r.cut.mono e4
    · cases r3 with
      | tup g n r =>
        refine .inr (.inl ⟨_, _, rfl, .inl (.inl (f3.le _ _ g)), fun hw => ?_, fun hw p np => ?_⟩)
        · refine k _ s3 h3 _ Z3 H3 e13 f3 (.tup g (Nat.le_trans (cutT_len _ _ _) n) ?_)
          rw [← r.len] at hw
          unfold cutT
          rw [hw.1, hw.2, Nat.sub_zero, List.drop_zero, List.take_length]
          exact r
        · obtain ⟨e4, f4⟩ := f3.new (o := .tup (cutV _ l u)) np
          refine k _ s3 h3 _ _ _ (e13.trans e4) f4 (.tup upd_same (Nat.le_trans (cutT_len _ _ _) n) ?_)
          exact r.cut.mono e4
    · cases r3 with
      | str hz => exact .inr (.inr ⟨_, rfl, hz, k _ s3 h3 _ Z3 H3 e13 f3 (.str (Nat.le_trans (cutS_len _ _ _) hz))⟩)
    · exact h3.elim⟩⟩⟩
end
end G69
namespace G69
open PySem PySem.Spec PyProof.Rows L2
/-! ### what is walked -/
abbrev TI3 := S3 → (List T → S3 → Prop) → Prop
abbrev TG3 := T → S3 → (S3 → Prop) → Prop
abbrev TGs3 := List T → S3 → (S3 → Prop) → Prop
structure WalkT (M : Mo) (J : It) (Z : Hp) (ts : List T) : Prop where
  few : ts.length ≤ sizeLine
  goes : ∀ i H, i < ts.length → Same Z H → J.go i H
  stops : ∀ H, Same Z H → J.stop ts.length H
  yields : ∀ i H x H' Z1, i < ts.length → Same Z Z1 → Same Z1 H → J.yld i H x H' → ∃ Z2 t, ts[i]? = some t ∧ Gw Z1 H Z2 H' ∧ Rp M Z2 t x
theorem WalkT.mono {M : Mo} {J : It} {Z Z' : Hp} {ts : List T} (w : WalkT M J Z ts) (e : Same Z Z') : WalkT M J Z' ts :=
  ⟨w.few, fun i H hi l => w.goes i H hi (e.trans l), fun H l => w.stops H (e.trans l), fun i H x H' Z1 hi e1 l y => w.yields i H x H' Z1 hi (e.trans e1) l y⟩
def upI (G : Gh) (ti : TI3) : TI := fun σ H R => ∃ px Z s Q3, Fm G px Z H σ s ∧ ti s Q3 ∧ ∀ ts s', Q3 ts s' → ∀ J Z' H', Same Z Z' → Fm G px Z' H' σ s' → WalkT G.M J Z' ts → R J H'
theorem PI.imp {X : Cx} {tg e : Expr} {t t' : TI} (h : PI X tg e t) (i : ∀ σ H R, t' σ H R → t σ H R) : PI X tg e t' := ⟨fun pins s σ H R I q => h.run pins s σ H R I (i σ H R q)⟩
def sgns (z : Str) : List T := z.cps.toList.map fun c => T.str ⟨#[c]⟩
def fSeq (t : T) (P : List T → Prop) : Prop := match t with
  | .lst ts => P ts
  | .tup ts => P ts
  | .str z => P (sgns z)
  | _ => False
def iSeq (te : TE3) : TI3 := fun s Q => te s fun t s1 => fSeq t fun ts => Q ts s1
def rngT (lo : Int) (n : Nat) : List T := (List.range n).map fun i => T.int (lo + (i : Nat))
def iR1 (ta : TA3) : TI3 := fun s Q => ta s fun ts s1 => match ts with
  | [.int j] => (-1000000 ≤ j ∧ j ≤ 1000000) ∧ Q (rngT 0 j.toNat) s1
  | _ => False
def iR2 (ta : TA3) : TI3 := fun s Q => ta s fun ts s1 => match ts with
  | [.int i, .int j] => (-1000000 ≤ i ∧ i ≤ 1000000 ∧ j ≤ 1000000 ∧ -1000000 ≤ j) ∧ Q (rngT i (j - i).toNat) s1
  | _ => False
def enumT (ts : List T) : List T := (List.range ts.length).map fun i => T.tup [.int (i : Nat), ts.getD i .non]
def iEn (ta : TA3) : TI3 := fun s Q => ta s fun as s1 => match as with
  | [.lst ts] => Q (enumT ts) s1
  | [.tup ts] => Q (enumT ts) s1
  | _ => False
def zipT (ts us : List T) : List T := (ts.zip us).map fun p => T.tup [p.1, p.2]
def iZp (ta : TA3) : TI3 := fun s Q => ta s fun as s1 => match as with
  | [.lst ts, .lst us] => Q (zipT ts us) s1
  | [.tup ts, .tup us] => Q (zipT ts us) s1
  | _ => False
section
variable {M : Mo} {Z : Hp} {a b : Addr} {ts us : List T} {vs ws : List V}
theorem walkT_l (h : Z a = some (.lst vs)) (n : ts.length ≤ sizeLine) (r : RpL M Z ts vs) : WalkT M (Itl M.K a) Z ts := by
  refine ⟨n, fun i H hi l => ?_, fun H l => ?_, fun i H x H' Z1 hi e l y => ?_⟩
  · rw [r.len] at hi
    exact ⟨vs, vs[i], .inl (.inl (l _ _ h)), List.getElem?_eq_getElem hi⟩
  · exact ⟨vs, .inl (.inl (l _ _ h)), by rw [r.len]; exact Nat.le_refl _⟩
  · obtain ⟨rfl, y⟩ := y
    have hx := y vs (.inl (.inl (l _ _ (e _ _ h))))
    obtain ⟨t, h1, h2⟩ := r.get2 hx
    exact ⟨Z1, t, h1, Gw.rfl' l, h2.mono e⟩
theorem walkT_t (h : Z a = some (.tup vs)) (n : ts.length ≤ sizeLine) (r : RpL M Z ts vs) : WalkT M (Itt M.K a) Z ts := by
  refine ⟨n, fun i H hi l => ?_, fun H l => ?_, fun i H x H' Z1 hi e l y => ?_⟩
  · rw [r.len] at hi
    exact ⟨vs, vs[i], .inl (.inl (l _ _ h)), List.getElem?_eq_getElem hi⟩
  · exact ⟨vs, .inl (.inl (l _ _ h)), by rw [r.len]; exact Nat.le_refl _⟩
  · obtain ⟨rfl, y⟩ := y
    have hx := y vs (.inl (.inl (l _ _ (e _ _ h))))
    obtain ⟨t, h1, h2⟩ := r.get2 hx
    exact ⟨Z1, t, h1, Gw.rfl' l, h2.mono e⟩
theorem sgns_len (z : Str) : (sgns z).length = z.cps.size := by
  unfold sgns
  rw [List.length_map, Array.length_toList]
theorem walkT_s {z : Str} (hz : z.length ≤ sizeLine) : WalkT M (Its z) Z (sgns z) := by
  have hl : (sgns z).length = z.cps.size := sgns_len z
  refine ⟨by rw [hl]; exact hz, fun i H hi l => by rw [hl] at hi; exact hi, fun H l => by rw [hl]; exact Nat.le_refl _, fun i H x H' Z1 hi e l y => ?_⟩
  obtain ⟨rfl, c, h1, rfl⟩ := y
  refine ⟨Z1, .str ⟨#[c]⟩, ?_, Gw.rfl' l, .str (by show 1 ≤ sizeLine; decide)⟩
  unfold sgns
  rw [List.getElem?_map, Array.getElem?_toList, h1]
  rfl
theorem rngT_len (lo : Int) (n : Nat) : (rngT lo n).length = n := by
  unfold rngT
  rw [List.length_map, List.length_range]
theorem rngT_at {lo : Int} {n i : Nat} (h : i < n) : (rngT lo n)[i]? = some (.int (lo + (i : Nat))) := by
  unfold rngT
  rw [List.getElem?_map, List.getElem?_range h]
  rfl
theorem walkT_r {lo : Int} {n : Nat} (hn : n ≤ sizeLine) : WalkT M (Itr lo n) Z (rngT lo n) := by
  refine ⟨by rw [rngT_len]; exact hn, fun i H hi l => by rw [rngT_len] at hi; exact hi, fun H l => by rw [rngT_len]; exact Nat.le_refl _, fun i H x H' Z1 hi e l y => ?_⟩
  rw [rngT_len] at hi
  obtain ⟨rfl, rfl⟩ := y
  exact ⟨Z1, _, rngT_at hi, Gw.rfl' l, .int _⟩
theorem enumT_len (ts : List T) : (enumT ts).length = ts.length := by
  unfold enumT
  rw [List.length_map, List.length_range]
theorem enumT_at {i : Nat} {t : T} (h : ts[i]? = some t) : (enumT ts)[i]? = some (.tup [.int (i : Nat), t]) := by
  unfold enumT
  rw [List.getElem?_map, List.getElem?_range (List.getElem?_eq_some_iff.mp h).1, Option.map_some, List.getD_eq_getElem?_getD, h]
  rfl
theorem gw_pair {Z1 H : Hp} {p : Addr} {x y : V} {t u : T} (l : Same Z1 H) (n : H p = none) (h1 : Rp M Z1 t x) (h2 : Rp M Z1 u y) : Gw Z1 H (upd Z1 p (.tup [x, y])) (upd H p (.tup [x, y])) ∧ Rp M (upd Z1 p (.tup [x, y])) (.tup [t, u]) (.ref p) := by
  have g := Gw.new (o := .tup [x, y]) l n
  exact ⟨g, .tup upd_same (by show 2 ≤ sizeLine; decide) (.cons (h1.mono g.zz) (.cons (h2.mono g.zz) .nil))⟩
theorem walkT_el (h : Z a = some (.lst vs)) (n : ts.length ≤ sizeLine) (r : RpL M Z ts vs) : WalkT M (Ite M.K a) Z (enumT ts) := by
  refine ⟨by rw [enumT_len]; exact n, fun i H hi l => ?_, fun H l => ?_, fun i H x H' Z1 hi e l y => ?_⟩
  · rw [enumT_len, r.len] at hi
    exact ⟨vs, vs[i], .inl (.inl (l _ _ h)), List.getElem?_eq_getElem hi⟩
  · exact ⟨vs, .inl (.inl (l _ _ h)), by rw [enumT_len, r.len]; exact Nat.le_refl _⟩
  · obtain ⟨p, x', rfl, np, rfl, y⟩ := y
    have hx := y vs (.inl (.inl (l _ _ (e _ _ h))))
    obtain ⟨t, h1, h2⟩ := r.get2 hx
    obtain ⟨g, rr⟩ := gw_pair (t := .int (i : Nat)) l np (.int (i : Nat)) (h2.mono e)
    exact ⟨_, _, enumT_at h1, g, rr⟩
theorem walkT_et (h : Z a = some (.tup vs)) (n : ts.length ≤ sizeLine) (r : RpL M Z ts vs) : WalkT M (IteT M.K a) Z (enumT ts) := by
  refine ⟨by rw [enumT_len]; exact n, fun i H hi l => ?_, fun H l => ?_, fun i H x H' Z1 hi e l y => ?_⟩
  · rw [enumT_len, r.len] at hi
    exact ⟨vs, vs[i], .inl (.inl (l _ _ h)), List.getElem?_eq_getElem hi⟩
  · exact ⟨vs, .inl (.inl (l _ _ h)), by rw [enumT_len, r.len]; exact Nat.le_refl _⟩
  · obtain ⟨p, x', rfl, np, rfl, y⟩ := y
    have hx := y vs (.inl (.inl (l _ _ (e _ _ h))))
    obtain ⟨t, h1, h2⟩ := r.get2 hx
    obtain ⟨g, rr⟩ := gw_pair (t := .int (i : Nat)) l np (.int (i : Nat)) (h2.mono e)
    exact ⟨_, _, enumT_at h1, g, rr⟩
theorem zipT_len (ts us : List T) : (zipT ts us).length = min ts.length us.length := by
  unfold zipT
  rw [List.length_map, List.length_zip]
theorem zipT_at {i : Nat} {t u : T} (h : ts[i]? = some t) (h' : us[i]? = some u) : (zipT ts us)[i]? = some (.tup [t, u]) := by
  unfold zipT
  rw [List.getElem?_map, List.getElem?_zip_eq_some (z := (t, u)) |>.mpr ⟨h, h'⟩]
  rfl
theorem walkT_zl (h : Z a = some (.lst vs)) (n : ts.length ≤ sizeLine) (r : RpL M Z ts vs) (h' : Z b = some (.lst ws)) (r' : RpL M Z us ws) : WalkT M (Itz M.K a b) Z (zipT ts us) := by
  have hl : (zipT ts us).length = min vs.length ws.length := by rw [zipT_len, r.len, r'.len]
  have ll : ∀ {H : Hp}, Same Z H → SqL M.K H a vs := fun l => .inl (.inl (l _ _ h))
  have ll' : ∀ {H : Hp}, Same Z H → SqL M.K H b ws := fun l => .inl (.inl (l _ _ h'))
  refine ⟨by rw [zipT_len]; omega, fun i H hi l => ?_, fun H l => ?_, fun i H x H' Z1 hi e l y => ?_⟩
  · rw [hl] at hi
    exact ⟨vs, ws, vs[i], ws[i], ll l, ll' l, List.getElem?_eq_getElem (by omega), List.getElem?_eq_getElem (by omega)⟩
  · exact ⟨vs, ws, ll l, ll' l, by rw [hl]; omega⟩
  · obtain ⟨p, x', y', rfl, np, rfl, y1, y2⟩ := y
    obtain ⟨t, h1, h2⟩ := r.get2 (y1 vs (ll (e.trans l)))
    obtain ⟨u, g1, g2⟩ := r'.get2 (y2 ws (ll' (e.trans l)))
    obtain ⟨g, rr⟩ := gw_pair l np (h2.mono e) (g2.mono e)
    exact ⟨_, _, zipT_at h1 g1, g, rr⟩
theorem walkT_zt (h : Z a = some (.tup vs)) (n : ts.length ≤ sizeLine) (r : RpL M Z ts vs) (h' : Z b = some (.tup ws)) (r' : RpL M Z us ws) : WalkT M (RZ.ItzT M.K a b) Z (zipT ts us) := by
  have hl : (zipT ts us).length = min vs.length ws.length := by rw [zipT_len, r.len, r'.len]
  have ll : ∀ {H : Hp}, Same Z H → SqT M.K H a vs := fun l => .inl (.inl (l _ _ h))
  have ll' : ∀ {H : Hp}, Same Z H → SqT M.K H b ws := fun l => .inl (.inl (l _ _ h'))
  refine ⟨by rw [zipT_len]; omega, fun i H hi l => ?_, fun H l => ?_, fun i H x H' Z1 hi e l y => ?_⟩
  · rw [hl] at hi
    exact ⟨vs, ws, vs[i], ws[i], ll l, ll' l, List.getElem?_eq_getElem (by omega), List.getElem?_eq_getElem (by omega)⟩
  · exact ⟨vs, ws, ll l, ll' l, by rw [hl]; omega⟩
  · obtain ⟨p, x', y', rfl, np, rfl, y1, y2⟩ := y
    obtain ⟨t, h1, h2⟩ := r.get2 (y1 vs (ll (e.trans l)))
    obtain ⟨u, g1, g2⟩ := r'.get2 (y2 ws (ll' (e.trans l)))
    obtain ⟨g, rr⟩ := gw_pair l np (h2.mono e) (g2.mono e)
    exact ⟨_, _, zipT_at h1 g1, g, rr⟩
end
section
variable {X : Cx} {G : Gh} {tg e e2 : Expr} {te : TE3} {ta : TA3} {p pos tpos : Pos} {elts : List Expr} {kk : Nat}
def iAny (K : PySem.W.Frag) (tl : TE) : TI := fun σ H R => tl σ H fun x H1 => (∃ a, x = .ref a ∧ (∃ xs, SqL K H1 a xs) ∧ R (Itl K a) H1) ∨ (∃ a, x = .ref a ∧ (∃ xs, SqT K H1 a xs) ∧ R (Itt K a) H1) ∨ ∃ z, x = .str z ∧ R (Its z) H1
theorem pi_any {tl : TE} (hl : PE X e tl) : PI X tg e (iAny X.K tl) := ⟨fun pins s σ H R I h => thn (hl.run pins s σ H _ I h) fun v s1 ⟨x, H1, I1, r1, q1⟩ => by
  rcases q1 with ⟨a, ex, ⟨xs, hq⟩, q⟩ | ⟨a, ex, ⟨xs, hq⟩, q⟩ | ⟨z, ex, q⟩
  · subst ex; cases r1
    obtain ⟨its, rv, pl, hz⟩ := I1.list hq
    exact wpAny_pyIter_list pl.isList (pi_one (tk := s1.toks) I1 _ (turn_list a _) ⟨_, Heap.get?_push_size _ rfl, rfl, rfl⟩ q)
  · subst ex; cases r1
    obtain ⟨its, rv, pl, hz⟩ := I1.tuple hq
    exact wpAny_pyIter_tuple (show s1.heap.IsTuple a its.toArray from pl) (pi_one (tk := s1.toks) I1 _ (turn_tuple a _) ⟨_, Heap.get?_push_size _ rfl, rfl, rfl⟩ q)
  · subst ex; obtain ⟨t, rfl⟩ := r1
    cases ha : z.cps.all (· < 128)
    · exact wpAny_pyIter_wide ha (pi_one (tk := s1.toks) I1 _ (turn_str _ z t "str_iterator" (.inr rfl)) ⟨_, Heap.get?_push_size _ rfl, rfl, rfl⟩ q)
    · exact wpAny_pyIter_ascii ha (pi_one (tk := s1.toks) I1 _ (turn_str _ z t "str_ascii_iterator" (.inl rfl)) ⟨_, Heap.get?_push_size _ rfl, rfl, rfl⟩ q)⟩
theorem qi_seq (hK : X.K = G.M.K) (h : PE X e (up G te)) : PI X tg e (upI G (iSeq te)) :=
  PI.imp (pi_any h) fun σ H R ⟨px, Z, s, Q3, fm, h, k⟩ => ⟨px, Z, s, _, fm, h, fun t s1 ht v Z1 H1 e1 f1 r1 => by
    rw [hK]
    unfold fSeq at ht
    split at ht
    · cases r1 with
      | lst g n r => exact .inl ⟨_, rfl, ⟨_, .inl (.inl (f1.le _ _ g))⟩, k _ s1 ht _ Z1 H1 e1 f1 (walkT_l g n r)⟩
    · cases r1 with
      | tup g n r => exact .inr (.inl ⟨_, rfl, ⟨_, .inl (.inl (f1.le _ _ g))⟩, k _ s1 ht _ Z1 H1 e1 f1 (walkT_t g n r)⟩)
    · cases r1 with
      | str hz => exact .inr (.inr ⟨_, rfl, k _ s1 ht _ Z1 H1 e1 f1 (walkT_s hz)⟩)
    · exact ht.elim⟩
theorem qi_r1 (hg : Gl X "range") (hm : X.mg "range" = none) (ha : PA X [e] (upA G ta)) (hs : starEach [e] X.env = [(false, eval e X.env)] := by rfl) : PI X tg (.Call (.Name "range" p) [e] [] pos) (upI G (iR1 ta)) :=
  PI.imp (pi_range1 hg hm ha hs) fun σ H R ⟨px, Z, s, Q3, fm, h, k⟩ => ⟨px, Z, s, _, fm, h, fun ts s1 ht vs Z1 H1 e1 f1 r1 => by
    split at ht
    · cases r1 with
      | cons r rr =>
        cases rr; cases r
        exact ⟨_, rfl, by omega, by omega, k _ s1 ht.2 _ Z1 H1 e1 f1 (walkT_r (szle (by omega)))⟩
    · exact ht.elim⟩
theorem qi_r2 (hg : Gl X "range") (hm : X.mg "range" = none) (ha : PA X [e, e2] (upA G ta)) (hs : starEach [e, e2] X.env = [(false, eval e X.env), (false, eval e2 X.env)] := by rfl) (hs2 : starEach [e2] X.env = [(false, eval e2 X.env)] := by rfl) :
    PI X tg (.Call (.Name "range" p) [e, e2] [] pos) (upI G (iR2 ta)) :=
  PI.imp (pi_range2 hg hm ha hs hs2) fun σ H R ⟨px, Z, s, Q3, fm, h, k⟩ => ⟨px, Z, s, _, fm, h, fun ts s1 ht vs Z1 H1 e1 f1 r1 => by
    split at ht
    · cases r1 with
      | cons r rr =>
        cases r
        cases rr with
        | cons r rr =>
          cases rr; cases r
          obtain ⟨⟨g1, g2, g3, g4⟩, ht⟩ := ht
          exact ⟨_, _, rfl, ⟨by omega, by omega, by omega, by omega⟩, k _ s1 ht _ Z1 H1 e1 f1 (walkT_r (Nat.le_trans (m := 2000000) (by omega) (by decide)))⟩
    · exact ht.elim⟩
theorem qi_en (hK : X.K = G.M.K) (hg : Gl X "enumerate") (hm : X.mg "enumerate" = none) (ha : PA X [e] (upA G ta)) (hs : starEach [e] X.env = [(false, eval e X.env)] := by rfl) :
    PI X (.Tuple elts kk tpos) (.Call (.Name "enumerate" p) [e] [] pos) (upI G (iEn ta)) :=
  PI.imp (pi_enumS hg hm ha hs) fun σ H R ⟨px, Z, s, Q3, fm, h, k⟩ => ⟨px, Z, s, _, fm, h, fun ts s1 ht vs Z1 H1 e1 f1 r1 => by
    rw [hK]
    split at ht
    · cases r1 with
      | cons r rr =>
        cases rr
        cases r with
        | lst g n r => exact ⟨_, _, rfl, .inl ⟨.inl (.inl (f1.le _ _ g)), k _ s1 ht _ Z1 H1 e1 f1 (walkT_el g n r)⟩⟩
    · cases r1 with
      | cons r rr =>
        cases rr
        cases r with
        | tup g n r => exact ⟨_, _, rfl, .inr ⟨.inl (.inl (f1.le _ _ g)), k _ s1 ht _ Z1 H1 e1 f1 (walkT_et g n r)⟩⟩
    · exact ht.elim⟩
theorem qi_zp (hK : X.K = G.M.K) (hg : Gl X "zip") (hm : X.mg "zip" = none) (ha : PA X [e, e2] (upA G ta)) (hs : starEach [e, e2] X.env = (false, eval e X.env) :: starEach [e2] X.env := by rfl) (hpl : (backTo pos (starEach [e2] X.env)).any (·.1) = false := by rfl) :
    PI X (.Tuple elts kk tpos) (.Call (.Name "zip" p) [e, e2] [] pos) (upI G (iZp ta)) :=
  PI.imp (RZ.pi_zipA hg hm ha hs hpl) fun σ H R ⟨px, Z, s, Q3, fm, h, k⟩ => ⟨px, Z, s, _, fm, h, fun ts s1 ht vs Z1 H1 e1 f1 r1 => by
    rw [hK]
    split at ht
    · cases r1 with
      | cons r rr =>
        cases rr with
        | cons r' rr =>
          cases rr
          cases r with
          | lst g n r => cases r' with
            | lst g' n' r' => exact ⟨_, _, _, _, rfl, .inl ⟨.inl (.inl (f1.le _ _ g)), .inl (.inl (f1.le _ _ g')), k _ s1 ht _ Z1 H1 e1 f1 (walkT_zl g n r g' r')⟩⟩
    · cases r1 with
      | cons r rr =>
        cases rr with
        | cons r' rr =>
          cases rr
          cases r with
          | tup g n r => cases r' with
            | tup g' n' r' => exact ⟨_, _, _, _, rfl, .inr ⟨.inl (.inl (f1.le _ _ g)), .inl (.inl (f1.le _ _ g')), k _ s1 ht _ Z1 H1 e1 f1 (walkT_zt g n r g' r')⟩⟩
    · exact ht.elim⟩
end
/-! ### targets -/
def gN (i : Nat) : TG3 := fun t s Q => match s[i]? with
  | some _ => Q (s.set i (.sh t))
  | none => False
def lenIs : List T → Nat → Bool
  | [], 0 => true
  | _ :: ts, n + 1 => lenIs ts n
  | _, _ => false
theorem lenIs_eq : ∀ {ts : List T} {n : Nat}, lenIs ts n = true → ts.length = n
  | [], 0, _ => rfl
  | _ :: _, _ + 1, h => congrArg Nat.succ (lenIs_eq h)
  | [], _ + 1, h => by cases h
  | _ :: _, 0, h => by cases h
def gT (n : Nat) (gs : TGs3) : TG3 := fun t s Q => match t with
  | .tup ts => (match lenIs ts n with
    | true => gs ts s Q
    | false => False)
  | _ => False
def gsN : TGs3 := fun ts s Q => match ts with
  | [] => Q s
  | _ => False
def gsC (g : TG3) (gs : TGs3) : TGs3 := fun ts s Q => match ts with
  | t :: r => g t s fun s1 => gs r s1 Q
  | _ => False
def Only (is : List Nat) (σ σ' : L2.St) : Prop := σ'.length = σ.length ∧ ∀ i, i ∉ is → σ'[i]? = σ[i]?
def upG (G : Gh) (is : List Nat) (g : TG3) : TG := fun v σ H R => ∃ px Z s t Q3, Fm G px Z H σ s ∧ Rp G.M Z t v ∧ g t s Q3 ∧ ∀ s', Q3 s' → ∀ σ', Fm G px Z H σ' s' → Only is σ σ' → R σ' H
def upGs (G : Gh) (is : List Nat) (g : TGs3) : TGs := fun vs σ H R => ∃ px Z s ts Q3, Fm G px Z H σ s ∧ RpL G.M Z ts vs ∧ g ts s Q3 ∧ ∀ s', Q3 s' → ∀ σ', Fm G px Z H σ' s' → Only is σ σ' → R σ' H
theorem PG.imp {X : Cx} {tg : Expr} {t t' : TG} (h : PG X tg t) (i : ∀ v σ H R, t' v σ H R → t v σ H R) : PG X tg t' := ⟨fun pins s σ H v u R I r q => h.run pins s σ H v u R I r (i v σ H R q)⟩
theorem PGs.imp {X : Cx} {tg : List Expr} {t t' : TGs} (h : PGs X tg t) (i : ∀ v σ H R, t' v σ H R → t v σ H R) : PGs X tg t' := ⟨fun pins s σ H v u R I r q => h.run pins s σ H v u R I r (i v σ H R q)⟩
section
variable {X : Cx} {G : Gh} {e : Expr} {es : List Expr} {g : TG3} {gs : TGs3} {is js : List Nat} {pos : Pos}
theorem qg_name {i : Nat} {x : Str} (hN : X.N.Nodup) (hi : X.N[i]? = some x) (hx : Loc X.env.scope x) (hf : X.fn x = true ∨ X.env.scope.names.lookup x = some .local := by first | exact .inl rfl | exact .inr rfl | assumption) : PG X (.Name x pos) (upG G [i] (gN i)) :=
  PG.imp (pg_name hN hi hx hf) fun v σ H R ⟨px, Z, s, t, Q3, fm, r, h, k⟩ => by
    unfold gN at h
    split at h
    · rename_i x e
      have hi : i < s.length := (List.getElem?_eq_some_iff.mp e).1
      refine k _ h _ (fm.setSh hi r) ⟨List.length_set, fun j hj => ?_⟩
      rw [List.getElem?_set_ne (fun z => hj (by rw [z]; exact List.mem_cons_self))]
    · exact h.elim
theorem qgs_nil : PGs X [] (upGs G [] gsN) := PGs.imp pgs_nil fun v σ H R ⟨px, Z, s, ts, Q3, fm, r, h, k⟩ => by
  unfold gsN at h
  split at h
  · cases r
    exact ⟨rfl, k _ h σ fm ⟨rfl, fun _ _ => rfl⟩⟩
  · exact h.elim
theorem qgs_cons (h1 : PG X e (upG G is g)) (h2 : PGs X es (upGs G js gs)) (hs : (assignEach (e :: es) X.env).map (·.2) = assign e X.env :: (assignEach es X.env).map (·.2) := by rfl) : PGs X (e :: es) (upGs G (is ++ js) (gsC g gs)) :=
  PGs.imp (pgs_cons h1 h2 hs) fun vs σ H R ⟨px, Z, s, ts, Q3, fm, r, h, k⟩ => by
    unfold gsC at h
    split at h
    · cases r with
      | cons r rr =>
        refine ⟨_, _, rfl, px, Z, s, _, _, fm, r, h, fun s1 h1 σ1 f1 o1 => ⟨px, Z, s1, _, _, f1, rr, h1, fun s2 h2 σ2 f2 o2 => k s2 h2 σ2 f2 ⟨o2.1.trans o1.1, fun i hi => ?_⟩⟩⟩
        rw [List.mem_append, not_or] at hi
        exact (o2.2 i hi.2).trans (o1.2 i hi.1)
    · exact h.elim
theorem qg_tup {k n : Nat} (hK : X.K = G.M.K) (hc : X.calm = true) (h : PGs X es (upGs G is gs)) (hn : (assignEach es X.env).length = n := by rfl) (hst : (assignEach es X.env).findIdx? (·.1) = none := by rfl) : PG X (.Tuple es k pos) (upG G is (gT n gs)) :=
  PG.imp (pg_tup hc h hn hst) fun v σ H R ⟨px, Z, s, t, Q3, fm, r, h, k⟩ => by
    unfold gT at h
    split at h
    · split at h
      · rename_i e
        cases r with
        | tup g n r => exact ⟨_, _, rfl, .inl (.inl (fm.le _ _ g)), by rw [← r.len]; exact lenIs_eq e, px, Z, s, _, Q3, fm, r, h, k⟩
      · exact h.elim
    · exact h.elim
end
/-! ### for -/
def forW (g : TG3) (tb : TS3) (D : Ends3) : List T → S3 → Prop
  | [], s => D.nx s
  | t :: ts, s => g t s fun s2 => tb { D with nx := forW g tb D ts, ct := forW g tb D ts, bk := D.nx } s2
theorem e_tFor3 (ti : TI3) (g : TG3) (tb : TS3) : ∃ f : TS3, f = fun D s => ti s fun ts s1 => forW g tb D ts s1 := ⟨_, rfl⟩
/-- neither the elaborator nor the kernel opens it -/
noncomputable def tFor3 (ti : TI3) (g : TG3) (tb : TS3) : TS3 := Classical.choose (e_tFor3 ti g tb)
theorem u_tFor3 (ti : TI3) (g : TG3) (tb : TS3) : tFor3 ti g tb = fun D s => ti s fun ts s1 => forW g tb D ts s1 := Classical.choose_spec (e_tFor3 ti g tb)
theorem drop_at {α : Type} {l : List α} {i : Nat} {x : α} (h : l[i]? = some x) : l.drop i = x :: l.drop (i + 1) := by
  obtain ⟨hi, e⟩ := List.getElem?_eq_some_iff.mp h
  rw [List.drop_eq_getElem_cons hi, e]
theorem q_for {X : Cx} {G : Gh} {tg iter : Expr} {body : List Stmt} {ti : TI3} {g : TG3} {is : List Nat} {tb : TS3} {pos : Pos} (hp : PassesOwn (model X.prog X.w) X.A X.env X.xe) (hc : X.calm = true) (hi : PI X tg iter (upI G ti)) (hg : PG X tg (upG G is g)) (hb : PSs X body (upS G tb))
    (hs : ∀ x, foldedSetIterable iter X.env x = pure x := by intro _; rfl) : PS X (.For tg iter body [] pos) (upS G (tFor3 ti g tb)) :=
  PS.imp (ps_for hp hc hi hg hb hs) fun D σ H ⟨px, Z, s, D3, fm, h, k⟩ => ⟨px, Z, s, fun ts s1 => forW g tb D3 ts s1, fm, (by rw [u_tFor3] at h; exact h), fun ts s1 hf J Z1 H1 e1 f1 w => by
    refine ⟨fun i m σ H => m = ts.length - i ∧ i ≤ ts.length ∧ ∃ Z' s', Same Z1 Z' ∧ Fm G px Z' H σ s' ∧ forW g tb D3 (ts.drop i) s', ⟨_, rfl, Nat.zero_le _, Z1, s1, fun _ _ q => q, f1, by rw [List.drop_zero]; exact hf⟩, ?_⟩
    rintro i m σ H ⟨rfl, hil, Z', s', e', f', hf'⟩
    by_cases hlt : i < ts.length
    · refine .inr ⟨w.goes i H hlt (e'.trans f'.le), fun σ H => ∃ Z2 s2, Same Z1 Z2 ∧ Fm G px Z2 H σ s2 ∧ forW g tb D3 (ts.drop (i + 1)) s2, fun σ2 H2 q => ⟨ts.length - (i + 1), by omega, rfl, hlt, q⟩, fun x H' y => ?_⟩
      obtain ⟨Z2, t, ht, gw, rr⟩ := w.yields i H x H' Z' hlt e' f'.le y
      rw [drop_at ht] at hf'
      have e2 := e'.trans gw.zz
      refine ⟨px, Z2, s', t, _, f'.grow gw, rr, hf', fun s2 h2 σ2 f2 _ => ⟨px, Z2, s2, _, f2, h2, ?_⟩⟩
      exact ⟨fun s3 h3 σ3 Z3 H3 e3 f3 => ⟨Z3, s3, e2.trans e3, f3, h3⟩, fun t h3 v Z3 H3 e3 => k.rt t h3 v Z3 H3 (e1.trans (e2.trans e3)), fun s3 h3 σ3 Z3 H3 e3 f3 => k.nx s3 h3 σ3 Z3 H3 (e1.trans (e2.trans e3)) f3, fun s3 h3 σ3 Z3 H3 e3 f3 => ⟨Z3, s3, e2.trans e3, f3, h3⟩, fun y u h3 v Z3 H3 p e3 => k.rq y u h3 v Z3 H3 p (e1.trans (e2.trans e3))⟩
    · have e : i = ts.length := by omega
      subst e
      rw [List.drop_length] at hf'
      exact .inl ⟨w.stops H (e'.trans f'.le), k.nx s' hf' σ Z' H (e1.trans e') f'⟩⟩
/-! ### comprehensions -/
def wipe3 (s : S3) : List Nat → S3
  | [] => s
  | v :: vs => (wipe3 s vs).set v .no
def back3 (s s4 : S3) : List Nat → S3
  | [] => s4
  | v :: vs => (back3 s s4 vs).set v (match s[v]? with
    | some (.sh t) => .sh t
    | _ => .no)
def lcW (g : TG3) (tt : TT3) (te : TE3) (vs : List Nat) (K : List T → S3 → Prop) : List T → List T → S3 → Prop
  | [], acc, s => K acc s
  | t :: ts, acc, s => g t (wipe3 s vs) fun s2 => tt s2 fun b s3 => If3 b (te s3 fun y s4 => lcW g tt te vs K ts (acc ++ [y]) s4) (lcW g tt te vs K ts acc s3)
theorem e_tLc3 (ti : TI3) (g : TG3) (tt : TT3) (te : TE3) (vs : List Nat) : ∃ f : TE3, f = fun s Q => ti s fun ts s1 => lcW g tt te vs (fun acc s2 => Q (.lst acc) (back3 s1 s2 vs)) ts [] s1 := ⟨_, rfl⟩
noncomputable def tLc3 (ti : TI3) (g : TG3) (tt : TT3) (te : TE3) (vs : List Nat) : TE3 := Classical.choose (e_tLc3 ti g tt te vs)
theorem u_tLc3 (ti : TI3) (g : TG3) (tt : TT3) (te : TE3) (vs : List Nat) : tLc3 ti g tt te vs = fun s Q => ti s fun ts s1 => lcW g tt te vs (fun acc s2 => Q (.lst acc) (back3 s1 s2 vs)) ts [] s1 := Classical.choose_spec (e_tLc3 ti g tt te vs)
def tYes3 : TT3 := fun s Q => Q true s
theorem Fm.wipe {G : Gh} {px Z H : Hp} {σ : L2.St} {s : S3} (f : Fm G px Z H σ s) : ∀ vs : List Nat, Fm G px Z H (L2.wipe σ vs) (wipe3 s vs)
  | [] => f
  | v :: vs => (f.wipe vs).setNo v none
theorem wipe3_len (s : S3) : ∀ vs : List Nat, (wipe3 s vs).length = s.length
  | [] => rfl
  | v :: vs => by unfold wipe3; rw [List.length_set, wipe3_len s vs]
theorem wipe3_out {s : S3} {i : Nat} : ∀ {vs : List Nat}, i ∉ vs → (wipe3 s vs)[i]? = s[i]?
  | [], _ => rfl
  | v :: vs, h => by
    unfold wipe3
    rw [List.getElem?_set_ne (fun z => h (by rw [z]; exact List.mem_cons_self)), wipe3_out fun m => h (List.mem_cons_of_mem _ m)]
theorem back3_len (s s4 : S3) : ∀ vs : List Nat, (back3 s s4 vs).length = s4.length
  | [] => rfl
  | v :: vs => by unfold back3; rw [List.length_set, back3_len s s4 vs]
/-- what stands behind a comprehension -/
theorem back3_at {s s4 : S3} : ∀ {vs : List Nat} {i : Nat} {x : Sl}, (back3 s s4 vs)[i]? = some x → (i ∉ vs ∧ s4[i]? = some x) ∨ (i ∈ vs ∧ (x = .no ∨ ∃ t, x = .sh t ∧ s[i]? = some (.sh t)))
  | [], i, x, h => .inl ⟨fun z => (by cases z), h⟩
  | v :: vs, i, x, h => by
    unfold back3 at h
    rcases set_at h with ⟨rfl, rfl⟩ | ⟨ne, h⟩
    · refine .inr ⟨List.mem_cons_self, ?_⟩
      split
      · rename_i t e
        exact .inr ⟨t, rfl, e⟩
      · exact .inl rfl
    · rcases back3_at h with ⟨h1, h2⟩ | ⟨h1, h2⟩
      · exact .inl ⟨fun z => by
          rcases List.mem_cons.mp z with z | z
          · exact ne z
          · exact h1 z, h2⟩
      · exact .inr ⟨List.mem_cons_of_mem _ h1, h2⟩
theorem Fm.back {G : Gh} {px Z Z' H H' : Hp} {σ : L2.St} {s s4 : S3} {vs : List Nat} (f : Fm G px Z H σ s) (e : Same Z Z') (f4 : Fm G px Z' H' (L2.wipe σ vs) (wipe3 s4 vs)) : Fm G px Z' H' σ (back3 s s4 vs) := by
  have hw : ∀ {i : Nat}, i ∉ vs → (L2.wipe σ vs)[i]? = σ[i]? := fun h => L2.wipe_out h
  refine ⟨f4.toCore, ?_, fun i t h => ?_, fun i t h => ?_, fun i j a t u h1 h2 g1 g2 => ?_, f4.px⟩
  · have := f4.len
    rw [L2.wipe_length, wipe3_len] at this
    rw [back3_len]
    exact this
  · rcases back3_at h with ⟨h1, h2⟩ | ⟨h1, h2⟩
    · have := f4.sh i t (by rw [wipe3_out h1]; exact h2)
      rw [hw h1] at this
      exact this
    · rcases h2 with h2 | ⟨u, h2, h3⟩
      · cases h2
      · cases h2
        obtain ⟨v, g1, g2⟩ := f.sh i _ h3
        exact ⟨v, g1, g2.mono e⟩
  · rcases back3_at h with ⟨h1, h2⟩ | ⟨h1, h2⟩
    · have := f4.ow i t (by rw [wipe3_out h1]; exact h2)
      rw [hw h1] at this
      exact this
    · rcases h2 with h2 | ⟨u, h2, h3⟩
      · cases h2
      · cases h2
  · rcases back3_at h1 with ⟨h1, h3⟩ | ⟨_, h3⟩
    · rcases back3_at h2 with ⟨h2, h4⟩ | ⟨_, h4⟩
      · exact f4.inj i j a t u (by rw [wipe3_out h1]; exact h3) (by rw [wipe3_out h2]; exact h4) (by rw [hw h1]; exact g1) (by rw [hw h2]; exact g2)
      · rcases h4 with h4 | ⟨_, h4, _⟩ <;> cases h4
    · rcases h3 with h3 | ⟨_, h3, _⟩ <;> cases h3
theorem wipe_only {σ σ' : L2.St} {vs : List Nat} (h : Only vs (L2.wipe σ vs) σ') : L2.wipe σ' vs = L2.wipe σ vs := by
  have gone : ∀ (ws : List Nat) (τ : L2.St) (i : Nat), i ∈ ws → i < τ.length → (L2.wipe τ ws)[i]? = some none := by
    intro ws
    induction ws with
    | nil => intro τ i h; cases h
    | cons w ws ih =>
      intro τ i hi hl
      unfold L2.wipe
      by_cases e : w = i
      · subst e
        rw [List.getElem?_set_self (by rw [L2.wipe_length]; exact hl)]
      · rw [List.getElem?_set_ne e]
        rcases List.mem_cons.mp hi with z | z
        · exact absurd z.symm e
        · exact ih τ i z hl
  apply List.ext_getElem?
  intro i
  have hl : σ'.length = σ.length := by rw [h.1, L2.wipe_length]
  by_cases hi : i ∈ vs
  · by_cases hlt : i < σ.length
    · rw [gone vs σ' i hi (by omega), gone vs σ i hi hlt]
    · rw [List.getElem?_eq_none (by rw [L2.wipe_length]; omega), List.getElem?_eq_none (by rw [L2.wipe_length]; omega)]
  · rw [L2.wipe_out hi, h.2 i hi]
section
variable {X : Cx} {G : Gh} {elt tg iter : Expr} {ifs : List Expr} {scope : Scope} {own : List (Str × Nat)} {pos : Pos} {ti : TI3} {g : TG3} {tt : TT3} {te : TE3} {is : List Nat}
theorem up_lc (hsub : ∀ i ∈ is, i ∈ own.map (·.2)) {σ : L2.St} {H : Hp} {Q : VK} (h : upF G (tLc3 ti g tt te (own.map (·.2))) σ H Q) : tLc (upI G ti) (upG G is g) (upT G tt) (up G te) (own.map (·.2)) σ H Q := by
  generalize hvs : own.map (·.2) = vs at h hsub ⊢
  obtain ⟨px, Z, s, Q3, fm, h, k⟩ := h
  rw [u_tLc3] at h
  refine ⟨px, Z, s, _, fm, h, fun ts s1 hf J Z1 H1 e1 f1 w D nD => ?_⟩
  obtain ⟨f1D, hpD, hnD⟩ := f1.mute (o := .lst []) nD
  have fW := (f1D.wipe vs).lay (o := .lst []) hpD (fun i t e q => hnD i t (by
      by_cases hi : i ∈ vs
      · exfalso
        have := L2.wipe_some q
        exact this.2 hi
      · rw [wipe3_out hi] at e
        exact e) (L2.wipe_some q).1) upd_same
  let Pv : Nat → Hp → Prop := fun i H => ∃ Z' s' acc va, Same Z1 Z' ∧ Fm G (upd px D (.lst va)) Z' H (L2.wipe σ vs) (wipe3 s' vs) ∧ RpL G.M Z' acc va ∧ acc.length ≤ i ∧ lcW g tt te vs (fun acc s2 => Q3 (.lst acc) (back3 s1 s2 vs)) (ts.drop i) acc s'
  have hd0 : Pv 0 (upd H1 D (.lst [])) := ⟨Z1, s1, [], [], fun _ _ q => q, fW, .nil, Nat.zero_le _, by rw [List.drop_zero]; exact hf⟩
  refine ⟨fun i m H => m = ts.length - i ∧ i ≤ ts.length ∧ Pv i H, ⟨_, rfl, Nat.zero_le _, hd0⟩, ?_⟩
  rintro i m H ⟨rfl, hil, Z', s', acc, va, e', f', ra, hl, hf'⟩
  by_cases hlt : i < ts.length
  · refine .inr ⟨w.goes i H hlt (e'.trans f'.le), Pv (i + 1), fun H2 q => ⟨ts.length - (i + 1), by omega, rfl, hlt, q⟩, fun x H' y => ?_⟩
    obtain ⟨Z2, t, ht, gw, rr⟩ := w.yields i H x H' Z' hlt e' f'.le y
    rw [drop_at ht] at hf'
    have e2 := e'.trans gw.zz
    refine ⟨_, Z2, _, t, _, f'.grow gw, rr, hf', fun s2 h2 σ2 f2 o2 => ?_⟩
    have ow : L2.wipe σ2 vs = L2.wipe σ vs := wipe_only ⟨o2.1, fun j hj => o2.2 j fun z => hj (hsub j z)⟩
    refine ⟨ow, _, Z2, s2, _, f2, h2, fun b s3 h3 Z3 H3 e3 f3 => ?_⟩
    cases b with
    | true =>
      rw [if_pos rfl]
      refine ⟨_, Z3, s3, _, f3, h3, fun yt s4 h4 yv Z4 H4 e4 f4 r4 => ?_⟩
      have hn4 := f4.px D _ upd_same
      refine ⟨va, hn4.1, by rw [← ra.len]; exact Nat.lt_of_lt_of_le (Nat.lt_of_le_of_lt hl hlt) w.few, Z4, s4, acc ++ [yt], va ++ [yv], e2.trans (e3.trans e4), ?_, ?_, by rw [List.length_append]; show acc.length + 1 ≤ i + 1; omega, h4⟩
      · have f5 := (f4.wipe vs).relay (o' := .lst (va ++ [yv])) hpD.2.2.1
        rw [ow] at f5
        exact f5
      · exact (ra.mono (gw.zz.trans (e3.trans e4))).app (.cons r4 .nil)
    | false =>
      rw [if_neg Bool.false_ne_true]
      have f5 := f3.wipe vs
      rw [ow] at f5
      exact ⟨Z3, s3, acc, va, e2.trans e3, f5, ra.mono (gw.zz.trans e3), Nat.le_succ_of_le hl, h3⟩
  · have e : i = ts.length := by omega
    subst e
    rw [List.drop_length] at hf'
    refine .inl ⟨w.stops H (e'.trans f'.le), ?_⟩
    obtain ⟨f0, hp, hno, ha⟩ := f'.unlay hpD.2.2.1
    have fb : Fm G px Z' H σ (back3 s1 s' vs) := f1.back e' f0
    refine k (.lst acc) _ hf' D Z' H (e1.trans e') fb hp (fun j t e q => ?_) ⟨va, ha, Nat.le_trans hl w.few, ra⟩
    rcases back3_at e with ⟨h1, h2⟩ | ⟨_, h2⟩
    · exact hno j t (by rw [wipe3_out h1]; exact h2) (by rw [L2.wipe_out h1]; exact q)
    · rcases h2 with h2 | ⟨_, h2, _⟩ <;> cases h2
theorem qts_nil : PTs X [] (upT G tYes3) := ⟨fun pins s σ H Q I ⟨px, Z, s3, Q3, fm, h, k⟩ => pts_nil.run pins s σ H Q I (k true s3 h Z H (fun _ _ q => q) fm)⟩
theorem qts_one {c : Expr} {t : TT3} (h : PT X c (upT G t)) : PTs X [c] (upT G t) := pts_one h
theorem qf_lc (hsub : ∀ i ∈ is, i ∈ own.map (·.2)) (hc : X.calm = true) (hN : X.N.Nodup) (hi : PI X tg iter (upI G ti)) (ok : BlkOk X.N X.env.scope scope own)
    (hg : ∀ (s : Shared) (H : Hp) (C : Addr) (cl : List (Str × Addr)) (fp : List Addr), PG (X.blk s H scope (compEnvC scope cl C X.env) fp) tg (upG G is g)) (ht : ∀ (s : Shared) (H : Hp) (C : Addr) (cl : List (Str × Addr)) (fp : List Addr), PTs (X.blk s H scope (compEnvC scope cl C X.env) fp) ifs (upT G tt))
    (he : ∀ (s : Shared) (H : Hp) (C : Addr) (cl : List (Str × Addr)) (fp : List Addr), PE (X.blk s H scope (compEnvC scope cl C X.env) fp) elt (up G te)) (hs : ∀ x, foldedSetIterable iter X.env x = pure x := by intro _; rfl) :
    PE X (.ListComp elt [⟨tg, iter, ifs, 0⟩] scope pos) (upF G (tLc3 ti g tt te (own.map (·.2)))) := PE.imp (pe_lc hc hN hi ok hg ht he hs) fun _ _ _ h => up_lc hsub h
end
end G69
namespace G69
open PySem PySem.Spec PyProof.Rows L2
/-! ### statements over trees -/
def sNx : TS3 := fun D s => D.nx s
def sBk : TS3 := fun D s => D.bk s
def sCt : TS3 := fun D s => D.ct s
def sSeq (t u : TS3) : TS3 := fun D s => t { D with nx := u D } s
def sIf (c : TT3) (t u : TS3) : TS3 := fun D s => c s fun b s1 => If3 b (t D s1) (u D s1)
def sRet (te : TE3) : TS3 := fun D s => te s fun t _ => D.rt t
def sRetN : TS3 := fun D _ => D.rt .non
def sExp (te : TE3) : TS3 := fun D s => te s fun _ s1 => D.nx s1
def sAsg (te : TE3) (g : TG3) : TS3 := fun D s => te s fun t s1 => g t s1 D.nx
def sOwn (i : Nat) (te : TE3) : TS3 := fun D s => te s fun t s1 => match s1[i]? with
  | some _ => D.nx (s1.set i (.ow t))
  | none => False
def sNo : TS3 := fun _ _ => False
def whW (c : TT3) (tb : TS3) (D : Ends3) : Nat → S3 → Prop
  | 0, _ => False
  | n + 1, s => c s fun b s1 => If3 b (tb { D with nx := whW c tb D n, ct := whW c tb D n, bk := D.nx } s1) (D.nx s1)
def sWh (c : TT3) (tb : TS3) : TS3 := fun D s => ∃ n, whW c tb D n s
def sPar (i j : Nat) (ta : TA3) : TS3 := fun D s => ta s fun ts s1 => match ts with
  | [t, u] => gN i t s1 fun s2 => gN j u s2 D.nx
  | _ => False
def sApp (i : Nat) (te : TE3) : TS3 := fun D s => match s[i]? with
  | some (.ow (.lst _)) => te s fun y s1 => (match s1[i]? with
    | some (.ow (.lst ts)) => ts.length ≤ 1000000 ∧ D.nx (s1.set i (.ow (.lst (ts ++ [y]))))
    | _ => False)
  | _ => False
def tPopAt (i : Nat) (te : TE3) : TE3 := fun s Q => match s[i]? with
  | some (.ow (.lst _)) => te s fun y s1 => (match y, s1[i]? with
    | .int j, some (.ow (.lst ts)) => ∃ k t, (-(2 ^ 63) ≤ j ∧ j < 2 ^ 63 ∧ seqIndex? j ts.length = some k ∧ ts[k]? = some t) ∧ Q t (s1.set i (.ow (.lst (ts.eraseIdx k))))
    | _, _ => False)
  | _ => False
section
variable {X : Cx} {G : Gh} {st : Stmt} {rest a b : List Stmt} {e c : Expr} {es : List Expr} {te : TE3} {tt : TT3} {t u : TS3} {pos pos' : Pos}
theorem qs_nil : PSs X [] (upS G sNx) := PSs.imp pss_nil fun D σ H ⟨px, Z, s, D3, fm, h, k⟩ => k.nx s h σ Z H (fun _ _ q => q) fm
theorem qs_one (h : PS X st (upS G t)) : PSs X [st] (upS G t) := pss_one h
theorem qs_cons (h1 : PS X st (upS G t)) (h2 : PSs X rest (upS G u)) : PSs X (st :: rest) (upS G (sSeq t u)) :=
  PSs.imp (pss_cons h1 h2) fun D σ H ⟨px, Z, s, D3, fm, h, k⟩ => ⟨px, Z, s, _, fm, h, ⟨fun s' h' σ' Z' H' e' f' => ⟨px, Z', s', D3, f', h', k.mono e'⟩, k.rt, k.bk, k.ct, k.rq⟩⟩
theorem q_pass : PS X (.Pass pos) (upS G sNx) := PS.imp ps_pass fun D σ H ⟨px, Z, s, D3, fm, h, k⟩ => k.nx s h σ Z H (fun _ _ q => q) fm
theorem q_break : PS X (.Break pos) (upS G sBk) := PS.imp ps_break fun D σ H ⟨px, Z, s, D3, fm, h, k⟩ => k.bk s h σ Z H (fun _ _ q => q) fm
theorem q_cont : PS X (.Continue pos) (upS G sCt) := PS.imp ps_continue fun D σ H ⟨px, Z, s, D3, fm, h, k⟩ => k.ct s h σ Z H (fun _ _ q => q) fm
theorem q_never : PS X st (upS G sNo) := ⟨fun _ _ _ _ _ _ ⟨_, _, _, _, _, h, _⟩ => h.elim⟩
theorem q_if (hc : PT X c (upT G tt)) (ha : PSs X a (upS G t)) (hb : PSs X b (upS G u)) : PS X (.If c a b pos) (upS G (sIf tt t u)) :=
  PS.imp (ps_if hc ha hb) fun D σ H ⟨px, Z, s, D3, fm, h, k⟩ => ⟨px, Z, s, _, fm, h, fun d s1 hd Z1 H1 e1 f1 => by
    cases d with
    | true => rw [if_pos rfl]; exact ⟨px, Z1, s1, D3, f1, hd, k.mono e1⟩
    | false => rw [if_neg Bool.false_ne_true]; exact ⟨px, Z1, s1, D3, f1, hd, k.mono e1⟩⟩
theorem q_ret (he : PE X e (up G te)) : PS X (.Return (some e) pos) (upS G (sRet te)) :=
  PS.imp (ps_ret he) fun D σ H ⟨px, Z, s, D3, fm, h, k⟩ => ⟨px, Z, s, _, fm, h, fun t s1 ht v Z1 H1 e1 f1 r1 => k.rt t ht v Z1 H1 e1 f1.toCore r1⟩
theorem q_retN : PS X (.Return none pos) (upS G sRetN) := PS.imp ps_retN fun D σ H ⟨px, Z, s, D3, fm, h, k⟩ => k.rt .non h .non Z H (fun _ _ q => q) fm.toCore .non
theorem q_exp (he : PE X e (up G te)) (hs : swapsWith e none pos.line X.env = pure false := by rfl) : PS X (.Expr e pos) (upS G (sExp te)) :=
  PS.imp (ps_expr he hs) fun D σ H ⟨px, Z, s, D3, fm, h, k⟩ => ⟨px, Z, s, _, fm, h, fun t s1 ht v Z1 H1 e1 f1 r1 => k.nx s1 ht σ Z1 H1 e1 f1⟩
theorem q_asg {tg : Expr} {is : List Nat} {g : TG3} (he : PE X e (up G te)) (hg : PG X tg (upG G is g)) (hs : swapsWithSole [tg] e pos.line X.env = pure false := by rfl) (hw : swappedStores [tg] e X.env = pure none := by rfl)
    (h1 : (assignEach [tg] X.env).map (·.2) = [assign tg X.env] := by rfl) : PS X (.Assign [tg] e pos) (upS G (sAsg te g)) :=
  PS.imp (ps_asg he hg hs hw h1) fun D σ H ⟨px, Z, s, D3, fm, h, k⟩ => ⟨px, Z, s, _, fm, h, fun t s1 ht v Z1 H1 e1 f1 r1 => ⟨px, Z1, s1, t, _, f1, r1, ht, fun s2 h2 σ2 f2 _ => k.nx s2 h2 σ2 Z1 H1 e1 f2⟩⟩
theorem q_set {i : Nat} {x : Str} (hN : X.N.Nodup) (hi : X.N[i]? = some x) (hx : Loc X.env.scope x) (he : PE X e (up G te)) (hs : swapsWith e (some (.Name x pos')) pos.line X.env = pure false := by rfl) (hf : X.fn x = true ∨ X.env.scope.names.lookup x = some .local := by first | exact .inl rfl | exact .inr rfl | assumption) :
    PS X (.Assign [.Name x pos'] e pos) (upS G (sAsg te (gN i))) :=
  PS.imp (ps_set hN hi hx he hs hf) fun D σ H ⟨px, Z, s, D3, fm, h, k⟩ => ⟨px, Z, s, _, fm, h, fun t s1 ht v Z1 H1 e1 f1 r1 => by
    unfold gN at ht
    split at ht
    · rename_i y ey
      exact k.nx _ ht _ Z1 H1 e1 (f1.setSh (List.getElem?_eq_some_iff.mp ey).1 r1)
    · exact ht.elim⟩
theorem q_own {i : Nat} {x : Str} (hN : X.N.Nodup) (hi : X.N[i]? = some x) (hx : Loc X.env.scope x) (he : PE X e (upF G te)) (hs : swapsWith e (some (.Name x pos')) pos.line X.env = pure false := by rfl) (hf : X.fn x = true ∨ X.env.scope.names.lookup x = some .local := by first | exact .inl rfl | exact .inr rfl | assumption) :
    PS X (.Assign [.Name x pos'] e pos) (upS G (sOwn i te)) :=
  PS.imp (ps_set hN hi hx he hs hf) fun D σ H ⟨px, Z, s, D3, fm, h, k⟩ => ⟨px, Z, s, _, fm, h, fun t s1 ht a Z1 H1 e1 f1 hp hn ow => by
    split at ht
    · rename_i y ey
      exact k.nx _ ht _ Z1 H1 e1 (f1.setOw (List.getElem?_eq_some_iff.mp ey).1 hp hn ow)
    · exact ht.elim⟩
theorem q_par {i j : Nat} {x y : Str} {e1 e2 : Expr} {ta : TA3} {px' py pt : Pos} {kt k2 : Nat} {pt2 : Pos} (hc : X.calm = true) (hN : X.N.Nodup) (hi : X.N[i]? = some x) (hj : X.N[j]? = some y) (hij : i ≠ j)
    (hx : X.env.scope.names.lookup x = some .local) (hy : X.env.scope.names.lookup y = some .local) (ha : PA X [e1, e2] (upA G ta))
    (hw : swappedStores [.Tuple [.Name x px', .Name y py] kt pt] (.Tuple [e1, e2] k2 pt2) X.env = pure (some [x, y])) :
    PS X (.Assign [.Tuple [.Name x px', .Name y py] kt pt] (.Tuple [e1, e2] k2 pt2) pos) (upS G (sPar i j ta)) :=
  PS.imp (ps_par hc hN hi hj hij hx hy ha hw) fun D σ H ⟨px, Z, s, D3, fm, h, k⟩ => ⟨px, Z, s, _, fm, h, fun ts s1 ht vs Z1 H1 e1 f1 r1 => by
    split at ht
    · cases r1 with
      | cons r rr =>
        cases rr with
        | cons r' rr =>
          cases rr
          refine ⟨_, _, rfl, ?_⟩
          unfold gN at ht
          split at ht
          · rename_i y1 ey1
            split at ht
            · rename_i y2 ey2
              exact k.nx _ ht _ Z1 H1 e1 ((f1.setSh (List.getElem?_eq_some_iff.mp ey1).1 r).setSh (List.getElem?_eq_some_iff.mp ey2).1 r')
            · exact ht.elim
          · exact ht.elim
    · exact ht.elim⟩
theorem q_while (hp : PassesOwn (model X.prog X.w) X.A X.env X.xe) (hc : PT X c (upT G tt)) (hb : PSs X a (upS G t)) : PS X (.While c a [] pos) (upS G (sWh tt t)) :=
  PS.imp (ps_while hp hc hb) fun D σ H ⟨px, Z, s, D3, fm, ⟨n, h⟩, k⟩ => by
    refine ⟨fun m σ H => ∃ Z' s', Same Z Z' ∧ Fm G px Z' H σ s' ∧ whW tt t D3 m s', ⟨n, Z, s, fun _ _ q => q, fm, h⟩, ?_⟩
    rintro m σ H ⟨Z', s', e', f', h'⟩
    cases m with
    | zero => exact h'.elim
    | succ m =>
      refine ⟨px, Z', s', _, f', h', fun d s1 hd Z1 H1 e1 f1 => ?_⟩
      have e2 := e'.trans e1
      cases d with
      | true =>
        refine iteT ⟨fun σ H => ∃ Z' s', Same Z Z' ∧ Fm G px Z' H σ s' ∧ whW tt t D3 m s', fun σ2 H2 q => ⟨m, Nat.lt_succ_self m, q⟩, px, Z1, s1, _, f1, hd, ?_⟩
        exact ⟨fun s3 h3 σ3 Z3 H3 e3 f3 => ⟨Z3, s3, e2.trans e3, f3, h3⟩, fun t h3 v Z3 H3 e3 => k.rt t h3 v Z3 H3 (e2.trans e3), fun s3 h3 σ3 Z3 H3 e3 f3 => k.nx s3 h3 σ3 Z3 H3 (e2.trans e3) f3, fun s3 h3 σ3 Z3 H3 e3 f3 => ⟨Z3, s3, e2.trans e3, f3, h3⟩, fun y u h3 v Z3 H3 p e3 => k.rq y u h3 v Z3 H3 p (e2.trans e3)⟩
      | false =>
        exact iteF (k.nx s1 hd σ Z1 H1 e2 f1)
theorem Fm.ownL {G : Gh} {px Z H : Hp} {σ : L2.St} {s : S3} (f : Fm G px Z H σ s) {i : Nat} {ts : List T} (e : s[i]? = some (.ow (.lst ts))) : ∃ a vs, σ[i]? = some (some (.ref a)) ∧ H a = some (.lst vs) ∧ ts.length ≤ sizeLine ∧ RpL G.M Z ts vs := by
  obtain ⟨a, h1, h2, vs, h3, h4, h5⟩ := f.ow i _ e
  exact ⟨a, vs, h1, h3, h4, h5⟩
theorem q_app (i : Nat) {x : Str} {p1 apos cpos : Pos} (he : PE X e (up G te)) (hN : X.N[i]? = some x := by rfl) (hv : Vis X.env.scope x := by first | exact Or.inl rfl | exact Or.inr (Or.inl rfl) | exact Or.inr (Or.inr rfl)) (hd : (x == ("__debug__" : Str)) = false := by decide)
    (hcd : (x == ("__classdict__" : Str)) = false := by decide)
    (hbase : attributeBase (.Name x p1) "append" X.env (eval (.Name x p1) X.env) = eval (.Name x p1) X.env := by rfl)
    (hfew : ((backTo cpos (starEach [e] X.env)).all (fun x => !x.1) && (backToKw cpos (keywordEach [] X.env)).all (fun x => x.1.isSome) && decide ([e].length + ([] : List Keyword).length + (if ([] : List Keyword).isEmpty then 0 else 1) < 30)) = true := by rfl)
    (hline : (apos.endLine == cpos.line) = true := by rfl) (hs : starEach [e] X.env = (false, eval e X.env) :: starEach [] X.env := by rfl) (hplain : (backTo cpos (starEach [] X.env)).any (·.1) = false := by rfl)
    (hsw : swapsWith (.Call (.Attribute (.Name x p1) "append" apos) [e] [] cpos) none pos.line X.env = pure false := by rfl) :
    PS X (.Expr (.Call (.Attribute (.Name x p1) "append" apos) [e] [] cpos) pos) (upS G (sApp i te)) :=
  PS.imp (ps_expr (pe_bm PySem.F.plainAttrs_list PySem.F.slot_list_append PySem.F.type_list_append mt_append (pv i hN hv hd hcd) (pa_cons he pa_nil hs) hbase hfew hline hs hplain) hsw) fun D σ H ⟨px, Z, s, D3, fm, h, k⟩ => by
    unfold sApp at h
    split at h
    · rename_i ts0 e0
      obtain ⟨a, vs, h1, h2, h3, h4⟩ := fm.ownL e0
      refine ⟨_, h1, .inl ⟨rfl, _, .inl (.inl h2)⟩, px, Z, s, _, fm, h, fun y s1 hy v Z1 H1 e1 f1 r1 => ?_⟩
      split at hy
      · rename_i ts e2
        obtain ⟨hsz, hy⟩ := hy
        obtain ⟨a', vs', g1, g2, g3, g4⟩ := f1.ownL e2
        rw [h1] at g1
        cases g1
        refine ⟨a, vs', v, rfl, rfl, g2, by rw [← g4.len]; exact Nat.lt_of_le_of_lt hsz (by decide), ?_⟩
        refine k.nx _ hy σ Z1 _ e1 (f1.put e2 h1 ⟨_, upd_same, ?_, g4.app (.cons r1 .nil)⟩)
        rw [List.length_append]
        exact Nat.lt_of_le_of_lt hsz (by decide)
      · exact hy.elim
    · exact h.elim
theorem q_popAt (i : Nat) {x : Str} {p1 apos cpos : Pos} (he : PE X e (up G te)) (hN : X.N[i]? = some x := by rfl) (hv : Vis X.env.scope x := by first | exact Or.inl rfl | exact Or.inr (Or.inl rfl) | exact Or.inr (Or.inr rfl)) (hd : (x == ("__debug__" : Str)) = false := by decide)
    (hcd : (x == ("__classdict__" : Str)) = false := by decide)
    (hbase : attributeBase (.Name x p1) "pop" X.env (eval (.Name x p1) X.env) = eval (.Name x p1) X.env := by rfl)
    (hfew : ((backTo cpos (starEach [e] X.env)).all (fun x => !x.1) && (backToKw cpos (keywordEach [] X.env)).all (fun x => x.1.isSome) && decide ([e].length + ([] : List Keyword).length + (if ([] : List Keyword).isEmpty then 0 else 1) < 30)) = true := by rfl)
    (hline : (apos.endLine == cpos.line) = true := by rfl) (hs : starEach [e] X.env = (false, eval e X.env) :: starEach [] X.env := by rfl) (hplain : (backTo cpos (starEach [] X.env)).any (·.1) = false := by rfl) :
    PE X (.Call (.Attribute (.Name x p1) "pop" apos) [e] [] cpos) (up G (tPopAt i te)) :=
  PE.imp (pe_bm PySem.F.plainAttrs_list PySem.F.slot_list_pop PySem.F.type_list_pop mt_popAt (pv i hN hv hd hcd) (pa_cons he pa_nil hs) hbase hfew hline hs hplain) fun σ H Q ⟨px, Z, s, Q3, fm, h, k⟩ => by
    unfold tPopAt at h
    split at h
    · rename_i ts0 e0
      obtain ⟨a, vs, h1, h2, h3, h4⟩ := fm.ownL e0
      refine ⟨_, h1, .inl ⟨rfl, _, .inl (.inl h2)⟩, px, Z, s, _, fm, h, fun y s1 hy v Z1 H1 e1 f1 r1 => ?_⟩
      split at hy
      · rename_i j ts e2
        obtain ⟨kk, t, ⟨c1, c2, c3, c4⟩, hy⟩ := hy
        obtain ⟨a', vs', g1, g2, g3, g4⟩ := f1.ownL e2
        rw [h1] at g1
        cases g1
        cases r1
        obtain ⟨w, w1, w2⟩ := g4.get c4
        refine ⟨a, vs', j, kk, w, rfl, rfl, g2, c1, c2, by rw [← g4.len]; exact c3, w1, ?_⟩
        refine k _ _ hy w Z1 _ e1 (f1.put e2 h1 ⟨_, upd_same, ?_, g4.erase kk⟩) w2
        rw [List.length_eraseIdx]
        split <;> omega
      · exact hy.elim
    · exact h.elim
end
/-! name = [..] -/
section
variable {X : Cx} {G : Gh} {elt tg iter : Expr} {ifs : List Expr} {scope : Scope} {own : List (Str × Nat)} {pos spos py : Pos} {ti : TI3} {g : TG3} {tt : TT3} {te : TE3} {is : List Nat} {i : Nat} {y : Str}
theorem q_ownLc (hsub : ∀ i ∈ is, i ∈ own.map (·.2)) (hc : X.calm = true) (hN : X.N.Nodup) (hy : X.N[i]? = some y) (hyl : X.env.scope.names.lookup y = some .local)
    (hsw : swapsWith (.ListComp elt [⟨tg, iter, ifs, 0⟩] scope pos) (some (.Name y py)) spos.line X.env = pure true) (hi : PI X tg iter (upI G ti)) (ok : BlkOk X.N X.env.scope scope own)
    (hg : ∀ (s : Shared) (H : Hp) (C : Addr) (cl : List (Str × Addr)) (fp : List Addr), PG (X.blk s H scope (compEnvC scope cl C X.env) fp) tg (upG G is g)) (ht : ∀ (s : Shared) (H : Hp) (C : Addr) (cl : List (Str × Addr)) (fp : List Addr), PTs (X.blk s H scope (compEnvC scope cl C X.env) fp) ifs (upT G tt))
    (he : ∀ (s : Shared) (H : Hp) (C : Addr) (cl : List (Str × Addr)) (fp : List Addr), PE (X.blk s H scope (compEnvC scope cl C X.env) fp) elt (up G te)) (hs : ∀ x, foldedSetIterable iter X.env x = pure x := by intro _; rfl) :
    PS X (.Assign [.Name y py] (.ListComp elt [⟨tg, iter, ifs, 0⟩] scope pos) spos) (upS G (sOwn i (tLc3 ti g tt te (own.map (·.2))))) :=
  PS.imp (ps_setLc hc hN hy hyl hsw hi ok hg ht he hs) fun D σ H ⟨px, Z, s, D3, fm, h, k⟩ => up_lc (σ := σ) hsub ⟨px, Z, s, _, fm, h, fun t s1 ht a Z1 H1 e1 f1 hp hn ow => by
    split at ht
    · rename_i y ey
      exact k.nx _ ht _ Z1 H1 e1 (f1.setOw (List.getElem?_eq_some_iff.mp ey).1 hp hn ow)
    · exact ht.elim⟩
theorem q_setLc (hsub : ∀ i ∈ is, i ∈ own.map (·.2)) (hc : X.calm = true) (hN : X.N.Nodup) (hy : X.N[i]? = some y) (hyl : X.env.scope.names.lookup y = some .local)
    (hsw : swapsWith (.ListComp elt [⟨tg, iter, ifs, 0⟩] scope pos) (some (.Name y py)) spos.line X.env = pure true) (hi : PI X tg iter (upI G ti)) (ok : BlkOk X.N X.env.scope scope own)
    (hg : ∀ (s : Shared) (H : Hp) (C : Addr) (cl : List (Str × Addr)) (fp : List Addr), PG (X.blk s H scope (compEnvC scope cl C X.env) fp) tg (upG G is g)) (ht : ∀ (s : Shared) (H : Hp) (C : Addr) (cl : List (Str × Addr)) (fp : List Addr), PTs (X.blk s H scope (compEnvC scope cl C X.env) fp) ifs (upT G tt))
    (he : ∀ (s : Shared) (H : Hp) (C : Addr) (cl : List (Str × Addr)) (fp : List Addr), PE (X.blk s H scope (compEnvC scope cl C X.env) fp) elt (up G te)) (hs : ∀ x, foldedSetIterable iter X.env x = pure x := by intro _; rfl) :
    PS X (.Assign [.Name y py] (.ListComp elt [⟨tg, iter, ifs, 0⟩] scope pos) spos) (upS G (sAsg (tLc3 ti g tt te (own.map (·.2))) (gN i))) :=
  PS.imp (ps_setLc hc hN hy hyl hsw hi ok hg ht he hs) fun D σ H ⟨px, Z, s, D3, fm, h, k⟩ => up_lc (σ := σ) hsub ⟨px, Z, s, _, fm, h, fun t s1 ht a Z1 H1 e1 f1 hp hn ow => by
    obtain ⟨o, ho⟩ := ow.at
    have f2 := f1.freeze hp hn ho (ow.nt ho)
    unfold gN at ht
    split at ht
    · rename_i y ey
      exact k.nx _ ht _ _ H1 (e1.trans (Same.new hp.1)) (f2.setSh (List.getElem?_eq_some_iff.mp ey).1 (ow.rp (Same.new hp.1) ho upd_same))
    · exact ht.elim⟩
end
end G69
namespace G69
open PySem PySem.Spec PyProof.Rows L2
/-! ### defs over trees -/
theorem none_of_same {H H' : Hp} {a : Addr} (e : Same H H') (h : H' a = none) : H a = none := by
  cases q : H a with
  | none => rfl
  | some o => rw [e a o q] at h; cases h
theorem some_ne {α : Type} {x : Option α} {y : α} (h : x = some y) : x ≠ none := by rw [h]; intro z; cases z
section
variable {G : Gh} {px Z H : Hp} {σ : L2.St} {s : S3}
/-- behind a callee that ran over Hc, Zc -/
theorem Fm.callN (f : Fm G px Z H σ s) {Hc Zc Z' H' : Hp} (c : Core ⟨G.M, noT Hc, Zc, none⟩ Z' H') (h1 : ∀ a o, H a = some o → NT o → Hc a = some o) (h2 : Same Z Zc) (h3 : ∀ a, Z a = none → Zc a ≠ none → H a = none) : Fm G px Z' H' σ s := by
  have zz : Same Z Z' := h2.trans c.z0
  have fresh : ∀ a o, NT o → Z a = none → H a = some o → Z' a = none := fun a o nt hz ho => by
    cases e : Z' a with
    | none => rfl
    | some u =>
      cases e2 : Zc a with
      | some w => exact absurd (h3 a hz (some_ne e2)) (some_ne ho)
      | none => exact absurd (c.nw a e2 (some_ne e)) (some_ne (noT_of (h1 a o ho nt) nt))
  have keep : ∀ a o, NT o → offD G.M.D a → H a = some o → H' a = some o := fun a o nt hd ho => c.kp a o (noT_of (h1 a o ho nt) nt) hd.not
  refine ⟨⟨c.le, f.z0.trans zz, fun a g1 g2 => ?_, fun a o e n => c.kp a o (noT_of (h1 a o (f.kp a o e n) (f.h0 a o e)) (f.h0 a o e)) n, c.dr, c.tb, c.zt, f.h0⟩, f.len, fun i t e => ?_, fun i t e => ?_, f.inj, fun a o e => ?_⟩
  · cases e : Z a with
    | some o => exact f.nw a g1 (some_ne e)
    | none =>
      have hn : noT H a = none := by
        cases e2 : Zc a with
        | some w => exact noT_none (h3 a e (some_ne e2))
        | none =>
          have hc : noT Hc a = none := c.nw a e2 g2
          cases q : noT H a with
          | none => rfl
          | some u =>
            obtain ⟨q1, q2⟩ := noT_some q
            rw [noT_of (h1 a u q1 q2) q2] at hc
            cases hc
      cases q : G.H0 a with
      | none => rfl
      | some u =>
        rw [noT_of (f.kp a u q (f.dr.offT hn).not) (f.h0 a u q)] at hn
        cases hn
  · obtain ⟨v, q1, q2⟩ := f.sh i t e
    exact ⟨v, q1, q2.mono zz⟩
  · obtain ⟨a, q1, q2, q3⟩ := f.ow i t e
    obtain ⟨o, ho⟩ := q3.at
    exact ⟨a, q1, ⟨fresh a o (q3.nt ho) q2.1 ho, q2.2⟩, q3.mono zz fun u hu => keep a u (q3.nt hu) q2.2.2.2 hu⟩
  · obtain ⟨q1, q2, q3, q4, q5⟩ := f.px a o e
    exact ⟨keep a o q5 q4 q1, fresh a o q5 q2 q1, q3, q4, q5⟩
theorem Fm.call (f : Fm G px Z H σ s) {Hc Zc Z' H' : Hp} (c : Core ⟨G.M, noT Hc, Zc, none⟩ Z' H') (h1 : Same H Hc) (h2 : Same Z Zc) (h3 : ∀ a, Z a = none → Zc a ≠ none → H a = none) : Fm G px Z' H' σ s := f.callN c (fun a o h _ => h1 a o h) h2 h3
end
/-- an error as it is raised -/
def Xr (M : Mo) (H Z' H' : Hp) (c : Nat) (fs : List T) (cls : Value) (od : Option Addr) : Prop :=
  ∃ C, M.mg (en c) = some (.ref C) ∧ cls = .ref C ∧ ((ef c = [] ∧ od = none) ∨ ∃ d vs, od = some d ∧ H d = none ∧ H' d = some (.xd ((ef c).zip vs)) ∧ RpL M Z' fs vs)
/-- .. seen from a body -/
def XrS (G : Gh) (px Z' H' : Hp) (σ : L2.St) (s : S3) (c : Nat) (fs : List T) (cls : Value) (od : Option Addr) : Prop :=
  ∃ C, G.M.mg (en c) = some (.ref C) ∧ cls = .ref C ∧ ((ef c = [] ∧ od = none) ∨ ∃ d vs, od = some d ∧ G.H0 d = none ∧ px d = none ∧ offD G.M.D d ∧ NotOw σ s d ∧ H' d = some (.xd ((ef c).zip vs)) ∧ RpL G.M Z' fs vs)
theorem XrS.of {G : Gh} {px Z H Z' H' : Hp} {σ : L2.St} {s : S3} {c : Nat} {fs : List T} {cls : Value} {od : Option Addr} (f : Fm G px Z H σ s) (x : Xr G.M (noT H) Z' H' c fs cls od) : XrS G px Z' H' σ s c fs cls od := by
  obtain ⟨C, x1, x2, x3⟩ := x
  refine ⟨C, x1, x2, x3.imp (fun q => q) fun ⟨d, vs, y1, y2, y3, y4⟩ => ⟨d, vs, y1, ?_, ?_, f.dr.offT y2, fun i t e q => ?_, y3, y4⟩⟩
  · cases q : G.H0 d with
    | none => rfl
    | some u =>
      rw [noT_of (f.kp d u q (f.dr.offT y2).not) (f.h0 d u q)] at y2
      cases y2
  · cases q : px d with
    | none => rfl
    | some u =>
      have := f.px d u q
      rw [noT_of this.1 this.2.2.2.2] at y2
      cases y2
  · obtain ⟨b, h1, _, h3⟩ := f.ow i t e
    rw [q] at h1
    cases h1
    obtain ⟨w, hw⟩ := h3.at
    rw [noT_of hw (h3.nt hw)] at y2
    cases y2
theorem XrS.xr {G : Gh} {px Z' H' : Hp} {σ : L2.St} {s : S3} {c : Nat} {fs : List T} {cls : Value} {od : Option Addr} (x : XrS G px Z' H' σ s c fs cls od) : Xr G.M G.H0 Z' H' c fs cls od := by
  obtain ⟨C, x1, x2, x3⟩ := x
  exact ⟨C, x1, x2, x3.imp (fun q => q) fun ⟨d, vs, y1, y2, _, _, _, y3, y4⟩ => ⟨d, vs, y1, y2, y3, y4⟩⟩
/-- nothing of before -/
theorem Core.h0n {G : Gh} {Z H : Hp} {a : Addr} (c : Core G Z H) (h : noT H a = none) : G.H0 a = none := by
  cases q : G.H0 a with
  | none => rfl
  | some u =>
    rw [noT_of (c.kp a u q (c.dr.offT h).not) (c.h0 a u q)] at h
    cases h
theorem Fm.pxn {G : Gh} {px Z H : Hp} {σ : L2.St} {s : S3} {a : Addr} (f : Fm G px Z H σ s) (h : noT H a = none) : px a = none := by
  cases q : px a with
  | none => rfl
  | some u =>
    have := f.px a u q
    rw [noT_of this.1 this.2.2.2.2] at h
    cases h
def lift (K : PySem.W.Frag) (mg : Str → Option Value) (sp : Sp3) : Sp := fun vs H Q E => ∃ D Z ts P3 E3, Sz K mg Z H ∧ DrOk D H Z ∧ RpL ⟨K, mg, D⟩ Z ts vs ∧ sp ts P3 E3 ∧
  (∀ t, P3 t → ∀ v Z' H', Core ⟨⟨K, mg, D⟩, noT H, Z, none⟩ Z' H' → Rp ⟨K, mg, D⟩ Z' t v → Q v H') ∧
  (∀ c fs, E3 c fs → ∀ cls od Z' H', Core ⟨⟨K, mg, D⟩, noT H, Z, none⟩ Z' H' → Xr ⟨K, mg, D⟩ (noT H) Z' H' c fs cls od → E cls od H')
def E03 : XK3 := fun _ _ => False
/-- the def's object, written out -/
def LkF (K : PySem.W.Frag) (f : Addr) (fd : FuncData) : Prop := ∃ (oc : Value) (od : Option Addr) (osl : Array (Option Value)), K.lookup f = some ⟨oc, od, .func fd, osl⟩
theorem fun_lk {K : PySem.W.Frag} {x qual : Str} {st : Stmt} {f : Addr} {fd : FuncData} (F : Fun K x qual st f fd) : LkF K f fd := by
  obtain ⟨oc, od, kV, doc, pm, an, cdv, ct, osl, rfl, lk, hcd⟩ := F.ex
  exact ⟨oc, od, osl, lk⟩
structure Cal3 (P : Program) (w : World) (K : PySem.W.Frag) (mg : Str → Option Value) (base : Heap) (x : Str) (ps : List Str) (k : Nat) (sp : Sp3) : Prop where
  ex : ∃ (f : Addr) (fd : FuncData), FnOk P w K mg base (L2.CX P w) k f fd ps (lift K mg sp) ∧ mg x = some (.ref f) ∧ PySem.W.keepIn K (.ref f) = true ∧ Binds K fd ps [] ∧ KBn K fd ps 0 ps (fun _ ws => ws) (fun _ zs => zs) ∧ LkF K f fd
def tCal (sp : Sp3) (E : XK3) (ta : TA3) : TE3 := fun s Q => ta s fun ts s1 => sp ts (fun t => Q t s1) E
/-- how a body may let an error out -/
structure Lets (X : Cx) (G : Gh) (E3 : XK3) (E : XK) : Prop where
  pass : Passes (L2.CX X.prog X.w) X E
  imp : ∀ c fs, E3 c fs → ∀ cls od Z' H', Core G Z' H' → Xr G.M G.H0 Z' H' c fs cls od → E cls od H'
  tk : Takes X (fun cls d _ H => E cls d H)
theorem lets0 {X : Cx} {G : Gh} : Lets X G E03 E0 := ⟨passL, fun _ _ h => h.elim, fun _ _ ⟨_, _, _, _, _, _, _, _, _, _, _, _, _, _, _, _, z⟩ => z.elim⟩
theorem FnOk.to0 {P : Program} {w : World} {K : PySem.W.Frag} {mg : Str → Option Value} {base : Heap} {k : Nat} {f : Addr} {fd : FuncData} {ps : List Str} {sp : Sp} (F : FnOk P w K mg base (L2.CX P w) k f fd ps sp) :
    FnOk P w K mg base CX0 k f fd ps (fun vs H Q _ => sp vs H Q E0) :=
  ⟨fun vs H Q _ h => F.len vs H Q E0 h, fun A outer s H args us vs Q E hr he hb hv h => codeAny_mono (F.run A outer s H args us vs Q E0 hr he hb hv h) fun r s' q => by
    cases r with
    | error e =>
      obtain ⟨_, _, _, _, _, _, _, _, _, _, _, _, z⟩ := q
      exact z.elim
    | ok fl => cases fl <;> exact q⟩
theorem FnOk.of0 {P : Program} {w : World} {K : PySem.W.Frag} {mg : Str → Option Value} {base : Heap} {k : Nat} {f : Addr} {fd : FuncData} {ps : List Str} {sp : Sp} (F : FnOk P w K mg base CX0 k f fd ps sp) :
    FnOk P w K mg base (L2.CX P w) k f fd ps sp :=
  ⟨F.len, fun A outer s H args us vs Q E hr he hb hv h => codeAny_mono (F.run A outer s H args us vs Q E hr he hb hv h) fun r s' q => by
    cases r with
    | error e => exact q.elim
    | ok fl => cases fl <;> exact q⟩
theorem Core.sz {G : Gh} {Z H : Hp} {K : PySem.W.Frag} {mg : Str → Option Value} (c : Core G Z H) (hM : G.M = ⟨K, mg, G.M.D⟩) : Sz K mg Z H := ⟨c.le, by have := c.tb; rw [hM] at this; exact this, c.zt⟩
section
variable {X : Cx} {G : Gh} {x : Str} {ps : List Str} {k j : Nat} {sp : Sp3} {e : Expr} {es : List Expr} {tA : TA3} {E3 : XK3} {E : XK} {p pos : Pos}
theorem lift_inX (hM : G.M = ⟨X.K, X.mg, G.M.D⟩) {px Z H : Hp} {σ : L2.St} {s : S3} {Q3 : K3} {Q : VK} {ts : List T} {vs : List V} (f : Fm G px Z H σ s) (r : RpL G.M Z ts vs) (h : sp ts (fun t => Q3 t s) E3)
    (hE : ∀ c fs, E3 c fs → ∀ cls od Z' H', Same Z Z' → Fm G px Z' H' σ s → XrS G px Z' H' σ s c fs cls od → E cls od H') (k : ∀ t, Q3 t s → ∀ v Z' H', Same Z Z' → Fm G px Z' H' σ s → Rp G.M Z' t v → Q v H') : lift X.K X.mg sp vs H Q E := by
  refine ⟨G.M.D, Z, ts, _, E3, f.toCore.sz hM, f.dr, hM ▸ r, h, fun t ht v Z' H' c rr => ?_, fun c fs he cls od Z' H' co xr => ?_⟩
  · rw [← hM] at c rr
    exact k t ht v Z' H' c.z0 (f.call c (fun _ _ q => q) (fun _ _ q => q) fun a h1 h2 => absurd h1 h2) rr
  · rw [← hM] at co xr
    exact hE c fs he cls od Z' H' co.z0 (f.call co (fun _ _ q => q) (fun _ _ q => q) fun a h1 h2 => absurd h1 h2) (.of f xr)
theorem lift_in (hM : G.M = ⟨X.K, X.mg, G.M.D⟩) {px Z H : Hp} {σ : L2.St} {s : S3} {Q3 : K3} {Q : VK} {ts : List T} {vs : List V} (f : Fm G px Z H σ s) (r : RpL G.M Z ts vs) (h : sp ts (fun t => Q3 t s) E3)
    (hE : ∀ c fs, E3 c fs → ∀ cls od Z' H', Core G Z' H' → Xr G.M G.H0 Z' H' c fs cls od → E cls od H') (k : ∀ t, Q3 t s → ∀ v Z' H', Same Z Z' → Fm G px Z' H' σ s → Rp G.M Z' t v → Q v H') : lift X.K X.mg sp vs H Q E :=
  lift_inX hM f r h (fun c fs he cls od Z' H' _ f' x => hE c fs he cls od Z' H' f'.toCore x.xr) k
/-- f(e, ..) -/
theorem q_calX (C : Cal3 X.prog X.w X.K X.mg X.base x ps k sp) (hM : G.M = ⟨X.K, X.mg, G.M.D⟩) (hr : Room j X.A) (hj : k ≤ j) (hg : Gl X x) (L : Lets X G E3 E) (ha : PA X (e :: es) (upA G tA))
    (hdb : (x == ("__debug__" : Str)) = false := by decide) (he : starEach (e :: es) X.env = (false, eval e X.env) :: starEach es X.env := by rfl) (hpl : (backTo pos (starEach es X.env)).any (·.1) = false := by rfl) :
    PE X (.Call (.Name x p) (e :: es) [] pos) (up G (tCal sp E3 tA)) := by
  obtain ⟨f, fd, F, g, kp, b, _⟩ := C.ex
  exact PE.imp (pe_call F (hr.mono hj) hg g kp b .nil L.pass ha hdb he hpl) fun σ H Q ⟨px, Z, s, Q3, fm, h, k⟩ => ⟨px, Z, s, _, fm, h, fun ts s1 hs vs Z1 H1 e1 f1 r1 => by
    show lift X.K X.mg sp (vs ++ []) H1 Q E
    rw [List.append_nil]
    exact lift_in hM f1 r1 hs L.imp fun t ht v Z' H' e' f' r' => k t s1 ht v Z' H' (e1.trans e') f' r'⟩
theorem q_cal0 (C : Cal3 X.prog X.w X.K X.mg X.base x ps k sp) (hM : G.M = ⟨X.K, X.mg, G.M.D⟩) (hr : Room j X.A) (hj : k ≤ j) (hg : Gl X x) (L : Lets X G E3 E) (hdb : (x == ("__debug__" : Str)) = false := by decide) :
    PE X (.Call (.Name x p) [] [] pos) (up G (tCal sp E3 aNil)) := by
  obtain ⟨f, fd, F, g, kp, b, _⟩ := C.ex
  exact PE.imp (pe_call0 F (hr.mono hj) hg g kp b .nil L.pass hdb) fun σ H Q ⟨px, Z, s, Q3, fm, h, k⟩ => lift_in (ts := []) hM fm .nil h L.imp fun t ht v Z' H' e' f' r' => k t s ht v Z' H' e' f' r'
end
/-! ### the rule for a def -/
def start3 (n : Nat) (ts : List T) : S3 := ts.map .sh ++ List.replicate (n - ts.length) .no
def spOf (n m : Nat) (W : XK3 → TS3) : Sp3 := fun ts Q E => match lenIs ts m with
  | true => W E { nx := fun _ => Q .non, rt := Q } (start3 n ts)
  | false => False
theorem fm_start {M : Mo} {Z H : Hp} {ts : List T} {vs : List V} (N : List Str) (l : Sz M.K M.mg Z H) (d : DrOk M.D H Z) (r : RpL M Z ts vs) : Fm ⟨M, noT H, Z, none⟩ (fun _ => none) Z H (L2.start N vs) (start3 N.length ts) where
  le := l.le
  z0 := fun _ _ q => q
  nw := fun a h1 h2 => absurd h1 h2
  kp := sameKp (noT_same H)
  dr := d
  tb := l.tb
  zt := l.zt
  h0 := noT_nt H
  len := by
    unfold L2.start start3
    rw [List.length_append, List.length_append, List.length_map, List.length_map, List.length_replicate, List.length_replicate, r.len]
  sh := fun i t e => by
    unfold start3 at e
    unfold L2.start
    by_cases hi : i < ts.length
    · rw [List.getElem?_append_left (by rw [List.length_map]; exact hi), List.getElem?_map] at e
      rw [List.getElem?_append_left (by rw [List.length_map, ← r.len]; exact hi), List.getElem?_map]
      cases q : ts[i]? with
      | none => rw [q] at e; cases e
      | some t' =>
        rw [q] at e
        cases e
        obtain ⟨v, h1, h2⟩ := r.get q
        exact ⟨v, by rw [h1]; rfl, h2⟩
    · rw [List.getElem?_append_right (by rw [List.length_map]; omega)] at e
      have := List.getElem?_replicate (a := Sl.no) (n := N.length - ts.length) (i := i - (List.map Sl.sh ts).length)
      rw [this] at e
      split at e <;> cases e
  ow := fun i t e => by
    unfold start3 at e
    by_cases hi : i < ts.length
    · rw [List.getElem?_append_left (by rw [List.length_map]; exact hi), List.getElem?_map] at e
      cases q : ts[i]? with
      | none => rw [q] at e; cases e
      | some t' => rw [q] at e; cases e
    · rw [List.getElem?_append_right (by rw [List.length_map]; omega)] at e
      have := List.getElem?_replicate (a := Sl.no) (n := N.length - ts.length) (i := i - (List.map Sl.sh ts).length)
      rw [this] at e
      split at e <;> cases e
  inj := fun i j a t u e => by
    unfold start3 at e
    by_cases hi : i < ts.length
    · rw [List.getElem?_append_left (by rw [List.length_map]; exact hi), List.getElem?_map] at e
      cases q : ts[i]? with
      | none => rw [q] at e; cases e
      | some t' => rw [q] at e; cases e
    · rw [List.getElem?_append_right (by rw [List.length_map]; omega)] at e
      have := List.getElem?_replicate (a := Sl.no) (n := N.length - ts.length) (i := i - (List.map Sl.sh ts).length)
      rw [this] at e
      split at e <;> cases e
  px := fun a o e => by cases e
section
variable {P : Program} {w : World} {K : PySem.W.Frag} {mg : Str → Option Value} {base : Heap}
theorem fn3 {x qual : Str} {st : Stmt} {f : Addr} {fd : FuncData} {N ps : List Str} {k : Nat} {W : XK3 → TS3} (F : Fun K x qual st f fd) (S : FnScope N ps (defScope st))
    (hb : ∀ (cdv : Value) (A : Around) (outer : List Env) (s : Shared) (H : Hp) (E : XK) (G : Gh) (E3 : XK3), Room k (A.deeper (envOfC qual (defScope st) s.heap.objs.size f cdv)) → (G.M = ⟨K, mg, G.M.D⟩ ∧ G.q = none) →
      Lets (cxOf (L2.CX P w) P w K mg base N qual (defScope st) f cdv A outer s H E) G E3 E → PSs (cxOf (L2.CX P w) P w K mg base N qual (defScope st) f cdv A outer s H E) (defBody st) (upS G (W E3))) :
    FnOk P w K mg base (L2.CX P w) (k + 1) f fd ps (lift K mg (spOf N.length ps.length W)) := by
  refine F.okX S (fun vs H Q E h => ?_) (fun cdv A outer s H vs Q E hr h => ?_)
  · obtain ⟨D, Z, ts, P3, E3, l, d, r, h, _⟩ := h
    unfold spOf at h
    split at h
    · rename_i e
      rw [← r.len]
      exact lenIs_eq e
    · exact h.elim
  · obtain ⟨D, Z, ts, P3, E3, l, d, r, h, q, qx⟩ := h
    unfold spOf at h
    split at h
    · have L : Lets (cxOf (L2.CX P w) P w K mg base N qual (defScope st) f cdv A outer s H E) ⟨⟨K, mg, D⟩, noT H, Z, none⟩ E3 E :=
        ⟨passes_call (takes_of rfl rfl rfl rfl) fun _ _ _ _ h => h, qx, takes_of rfl rfl rfl rfl⟩
      refine ⟨_, hb cdv A outer s H E ⟨⟨K, mg, D⟩, noT H, Z, none⟩ E3 hr ⟨rfl, rfl⟩ L, _, Z, _, _, fm_start N l d r, h, ⟨fun s' h' σ' Z' H' e' f' => ?_, fun t ht v Z' H' e' c rr => q t ht v Z' H' c rr, fun s' h' => h'.elim, fun s' h' => h'.elim, fun _ _ h' => h'.elim⟩⟩
      exact q .non h' .non Z' H' f'.toCore .non
    · exact h.elim
structure Def3 (K : PySem.W.Frag) (mg : Str → Option Value) (x : Str) (st : Stmt) (ps : List Str) : Prop where
  ex : ∃ (f : Addr) (fd : FuncData), Fun K x x st f fd ∧ mg x = some (.ref f) ∧ Binds K fd ps [] ∧ KBn K fd ps 0 ps (fun _ ws => ws) (fun _ zs => zs)
theorem cal3 {x : Str} {st : Stmt} {N ps : List Str} {k : Nat} {W : XK3 → TS3} (Df : Def3 K mg x st ps) (S : FnScope N ps (defScope st))
    (hb : ∀ (f : Addr) (cdv : Value) (A : Around) (outer : List Env) (s : Shared) (H : Hp) (E : XK) (G : Gh) (E3 : XK3), Room k (A.deeper (envOfC x (defScope st) s.heap.objs.size f cdv)) → (G.M = ⟨K, mg, G.M.D⟩ ∧ G.q = none) →
      Lets (cxOf (L2.CX P w) P w K mg base N x (defScope st) f cdv A outer s H E) G E3 E → PSs (cxOf (L2.CX P w) P w K mg base N x (defScope st) f cdv A outer s H E) (defBody st) (upS G (W E3))) :
    Cal3 P w K mg base x ps (k + 1) (spOf N.length ps.length W) := by
  obtain ⟨f, fd, F, g, b, kb⟩ := Df.ex
  exact ⟨f, fd, fn3 F S (hb f), g, F.kp, b, kb, fun_lk F⟩
end
end G69
namespace G69
open PySem PySem.Spec PyProof.Rows L2
/-! ### sets of texts -/
abbrev KS (P : Program) (w : World) := PySem.strKind P w
def txtOf (e : Int × Value) : Str := match e.2 with
  | .str z _ => z
  | _ => Str.empty
def IsTx (P : Program) (w : World) (e : Int × Value) : Prop := ∃ z u, e.2 = Value.str z u ∧ e.1 = (KS P w).hash z
/-- the set at a: m tells its texts, c counts them -/
def TSet (P : Program) (w : World) (h : Heap) (a : Addr) (m : Str → Bool) (c : Nat) : Prop :=
  ∃ o xs ep tb, (h.get? a = some o ∧ o.ExactSet ∧ o.data = .set xs ep tb) ∧ ((∀ e ∈ xs.toList, IsTx P w e) ∧ (xs.toList.map txtOf).Nodup ∧ ∀ z, m z = true ↔ z ∈ xs.toList.map txtOf) ∧
    (xs.size < scanBound ∧ tb.fits xs.size = true ∧ xs.size = c) ∧ Ris tb.place.toList ∧ (w.params.followText "set-order" = true ∨ tb.led = true)
section
variable {P : Program} {w : World} {h h' : Heap} {a : Addr} {m : Str → Bool} {c : Nat}
theorem TSet.at (R : TSet P w h a m c) (k : ∀ o, h.get? a = some o → h'.get? a = some o) : TSet P w h' a m c :=
  let ⟨o, xs, ep, tb, q, r⟩ := R
  ⟨o, xs, ep, tb, ⟨k o q.1, q.2⟩, r⟩
theorem TSet.congr {m' : Str → Bool} (R : TSet P w h a m c) (e : ∀ z, m' z = m z) : TSet P w h a m' c := by
  have q : m' = m := funext e
  rw [q]
  exact R
theorem isTx_elems {l : List (Int × Value)} (g : ∀ e ∈ l, IsTx P w e) : ElemsOf (KS P w) l := fun e he => by
  obtain ⟨z, u, e1, e2⟩ := g e he
  refine ⟨⟨z, ?_, e2⟩, ?_⟩
  · rw [e1]
    exact strKind_is P w z u
  · rw [e1]
    rfl
theorem isTx_is {e : Int × Value} (g : IsTx P w e) (z : Str) : (KS P w).is z e.2 = true ↔ txtOf e = z := by
  obtain ⟨z0, u, e1, _⟩ := g
  unfold txtOf
  rw [e1]
  dsimp only
  constructor
  · intro q
    obtain ⟨u', q'⟩ := Value.isStrOf_shape (show Value.isStrOf z (Value.str z0 u) = true from q)
    injection q'
  · rintro rfl
    exact strKind_is P w z0 u
theorem isTx_mem {l : List (Int × Value)} (g : ∀ e ∈ l, IsTx P w e) (z : Str) : z ∈ l.map txtOf ↔ ∃ e ∈ l, (KS P w).is z e.2 = true := by
  rw [List.mem_map]
  exact ⟨fun ⟨e, he, q⟩ => ⟨e, he, (isTx_is (g e he) z).2 q⟩, fun ⟨e, he, q⟩ => ⟨e, he, (isTx_is (g e he) z).1 q⟩⟩
end
section
variable {P : Program} {w : World} {A : Around} {E : Value → Shared → Prop} {s : Shared} {a : Addr} {m : Str → Bool} {c : Nat}
theorem tset_tail {g : Bool → Sem Unit} (hg : ∀ (b : Bool) (s1 : Shared) (Q1 : Unit → Shared → Prop), Q1 () s1 → wpAny (model P w) A (g b) Q1 E s1)
    {o : Obj} {es : Array (Int × Value)} {ep : Nat} {tb : SetTable} (ho : s.heap.get? a = some o) (hx : o.ExactSet) (hd : o.data = .set es ep tb)
    {xs : Array (Int × Value)} {t2 : SetTable} {m' : Str → Bool} (g1 : (∀ e ∈ xs.toList, IsTx P w e) ∧ (xs.toList.map txtOf).Nodup ∧ ∀ z, m' z = true ↔ z ∈ xs.toList.map txtOf)
    (g2 : xs.size < scanBound ∧ t2.fits xs.size = true) (hr : Ris t2.place.toList) (hl : w.params.followText "set-order" = true ∨ t2.led = true) {dm : Bool} {R : Option Bool → Shared → Prop}
    (hR : ∀ h1, Heap.SameBut a s.heap h1 → TSet P w h1 a m' xs.size → R (some true) { s with heap := h1 }) :
    wpAny (model P w) A (do
        storeSet a xs t2
        if (!dm && t2.tooFull) = true then do
            g (relayAll t2 xs (SetTable.grown xs.size)).2.2
            storeSet a (relayAll t2 xs (SetTable.grown xs.size)).1 (relayAll t2 xs (SetTable.grown xs.size)).2.1
            pure (some true)
          else pure (some true)) R E s := by
  obtain ⟨hb1, hf2⟩ := g2
  refine wpAny_bind (wpAny_storeSet_of ho hd ?_ (fits_of_scanBound hb1)); have ho1 := store_at (es' := xs) (t' := t2) ho hd
  have sb1 := Heap.SameBut.update s.heap a (Obj.putSet xs t2)
  split
  · have pm := relayAll_perm t2 xs (SetTable.grown xs.size)
    have q1 := relayAll_fits t2 xs (SetTable.grown xs.size)
    have q2 := relayAll_ris t2 xs (SetTable.grown xs.size)
    have q3 := relayAll_led t2 xs (SetTable.grown xs.size)
    generalize relayAll t2 xs (SetTable.grown xs.size) = W at pm q1 q2 q3 ⊢
    obtain ⟨ys, t3, gw⟩ := W
    dsimp only at pm q1 q2 q3 ⊢
    have hn : ys.size = xs.size := by simpa using pm.length_eq
    have hb2 : ys.size < scanBound := hn ▸ hb1
    refine wpAny_bind (hg _ _ _ (wpAny_bind (wpAny_storeSet_of ho1 rfl ?_ (fits_of_scanBound hb2))))
    have ho2 := store_at (es' := ys) (t' := t3) ho1 rfl
    refine wpAny_pure (hR _ (sb1.trans (Heap.SameBut.update _ a _)) ⟨_, ys, _, t3, ⟨ho2, hx, rfl⟩, ⟨fun e he => g1.1 e (pm.mem_iff.mp he), (pm.map txtOf).nodup_iff.mpr g1.2.1, fun z => (g1.2.2 z).trans (pm.map txtOf).mem_iff.symm⟩, ⟨hb2, q1, hn⟩, q2, ?_⟩)
    exact hl.imp id fun z => by rw [q3]; exact z
  · exact wpAny_pure (hR _ sb1 ⟨_, xs, _, t2, ⟨ho1, hx, rfl⟩, g1, ⟨hb1, hf2, rfl⟩, hr, hl⟩)
theorem tset_add {z : Str} {u : Tok} {Q : Bool → Shared → Prop} (R : TSet P w s.heap a m c) (room : c + 1 < scanBound)
    (hQ : ∀ h1, Heap.SameBut a s.heap h1 → TSet P w h1 a (fun y => m y || decide (y = z)) (if m z = true then c else c + 1) → Q (!m z) { s with heap := h1 }) :
    wpAny (model P w) A (setAddHashed a (.str z u) ((KS P w).hash z)) Q E s := by
  obtain ⟨o, es, ep, tb, ⟨ho, hx, hd⟩, ⟨g, nd, hm⟩, ⟨hb, hf, hn⟩, hr, hl⟩ := R
  have hkey : (KS P w).is z (.str z u) = true := strKind_is P w z u
  have hsc : (Value.str z u).scannable = true := rfl
  have hel : ElemsOf (KS P w) es.toList := isTx_elems g
  unfold setAddHashed setAddHashedIn
  refine wpAny_holding (wpAny_bind (wpAny_setState_of ho hd hf ?_)); dsimp only
  rw [byScan_of hsc hb hel]
  simp only [↓reduceIte]
  unfold setAddByScan
  refine wpAny_bind (wpAny_bind (wpAny_rule (wpAny_bind (wpAny_setScan_of hkey ho hd hf hel ?_))))
  cases hfi : List.findIdx? (fun e => (KS P w).is z e.2) es.toList with
  | some j =>
    dsimp only
    obtain ⟨hj, pj, _⟩ := List.findIdx?_eq_some_iff_getElem.mp hfi
    have hz : m z = true := (hm z).2 ((isTx_mem g z).2 ⟨es.toList[j], List.getElem_mem hj, pj⟩)
    have q := hQ s.heap (Heap.SameBut.refl a s.heap) ⟨o, es, ep, tb, ⟨ho, hx, hd⟩, ⟨g, nd, fun y => by
      rw [Bool.or_eq_true, decide_eq_true_eq, ← hm y]
      exact ⟨fun h => h.elim id (fun e => e ▸ hz), .inl⟩⟩, ⟨hb, hf, by rw [if_pos hz]; exact hn⟩, hr, hl⟩
    rw [hz] at q
    exact wpAny_pure (wpAny_pure q)
  | none =>
    dsimp only
    have hnk : z ∉ es.toList.map txtOf := fun h => by
      obtain ⟨e, he, q⟩ := (isTx_mem g z).1 h
      have d := List.findIdx?_eq_none_iff.mp hfi e he
      rw [q] at d
      cases d
    have hz : m z = false := by
      cases q : m z with
      | false => rfl
      | true => exact absurd ((hm z).1 q) hnk
    have hgw : ∀ (b : Bool) {s1 : Shared} {Q1 : Unit → Shared → Prop}, Q1 () s1 → wpAny (model P w) A (match b with | true => rule "set.scan.the-table-gave-way" | false => pure ()) Q1 E s1 := fun b s1 Q1 q => by cases b <;> first | exact wpAny_pure q | exact wpAny_rule q
    have pm := layNew_perm tb es ((KS P w).hash z) (.str z u)
    have q1 := layNew_fits tb es ((KS P w).hash z) (.str z u)
    have q2 := layNew_ris tb es ((KS P w).hash z) (.str z u) hr
    have q3 := layNew_led tb es ((KS P w).hash z) (.str z u)
    generalize layNew tb es ((KS P w).hash z) (.str z u) = W at pm q1 q2 q3 ⊢
    obtain ⟨xs, t1, dm, gw⟩ := W
    dsimp only at pm q1 q2 q3 ⊢
    rw [Array.toList_push] at pm
    have pc : xs.toList.Perm (((KS P w).hash z, Value.str z u) :: es.toList) := pm.trans (List.perm_append_singleton _ _)
    have pk : (xs.toList.map txtOf).Perm (z :: es.toList.map txtOf) := pc.map txtOf
    have g1 : ∀ e ∈ xs.toList, IsTx P w e := fun e he => (List.mem_cons.mp (pc.mem_iff.mp he)).elim (fun h => h ▸ ⟨z, u, rfl, rfl⟩) fun h => g e h
    have g2 : (xs.toList.map txtOf).Nodup := pk.nodup_iff.mpr (List.nodup_cons.mpr ⟨hnk, nd⟩)
    have g3 : ∀ y, (m y || decide (y = z)) = true ↔ y ∈ xs.toList.map txtOf := fun y => by
      rw [Bool.or_eq_true, decide_eq_true_eq, hm y, pk.mem_iff, List.mem_cons]
      exact Or.comm
    have hsz : xs.size = c + 1 := by
      have q := pc.length_eq
      rw [List.length_cons, Array.length_toList, Array.length_toList, hn] at q
      exact q
    have hb1 : xs.size < scanBound := hsz ▸ room
    have hled : w.params.followText "set-order" = true ∨ t1.led = true := hl.imp id fun h => by rw [q3]; exact h
    have fin : ∀ h1, Heap.SameBut a s.heap h1 → TSet P w h1 a (fun y => m y || decide (y = z)) xs.size → Q true { s with heap := h1 } := fun h1 sb r => by
      have q := hQ h1 sb
      rw [hz] at q
      rw [hsz] at r
      exact q r
    refine wpAny_bind (hgw _ ?_)
    split
    · refine wpAny_bind ?_
      rw [hashByValue_scannable 8 hsc]
      refine wpAny_pure (tset_tail ?_ ho hx hd ⟨g1, g2, g3⟩ ⟨hb1, ?_⟩ ?_ ?_ ?_)
      · intro b s1 Q1 q; cases b <;> first | exact wpAny_pure q | exact wpAny_rule q
      · first | (split <;> first | exact q1 | exact SetTable.fits_plain_off q1) | exact q1
      · first | (split <;> exact q2) | exact q2
      · first | (split <;> exact hled) | exact hled
      · intro h1 sb r; dsimp only; exact wpAny_pure (fin h1 sb r)
    · refine wpAny_bind (wpAny_pure ?_)
      simp only [↓reduceIte]
      refine tset_tail ?_ ho hx hd ⟨g1, g2, g3⟩ ⟨hb1, q1⟩ q2 hled ?_
      · intro b s1 Q1 q; cases b <;> first | exact wpAny_pure q | exact wpAny_rule q
      · intro h1 sb r; dsimp only; exact wpAny_pure (fin h1 sb r)
def sgn (x : Str) : List Str := x.cps.toList.map fun d => ⟨#[d]⟩
theorem sgn_len (x : Str) : (sgn x).length = x.cps.size := by
  unfold sgn
  rw [List.length_map, Array.length_toList]
theorem sgn_at {x : Str} {i : Nat} {v : Value} (h : SignAt x i v) : ∃ y u, (sgn x)[i]? = some y ∧ v = .str y u := by
  obtain ⟨d, u, e, rfl⟩ := h
  refine ⟨⟨#[d]⟩, u, ?_, rfl⟩
  unfold sgn
  rw [List.getElem?_map, Array.getElem?_toList, e]
  rfl
end
section
variable {P : Program} {w : World} {A : Around} {R : Result → Shared → Prop} {I : Addr} {fp wr : List Addr} {G : Array GenState → Array GenState → Prop} {n : Nat} {Pv : Nat → Value → Prop} {St : Nat → Shared → Prop}
theorem tset_loop (W : WalksS P w A.in1 I fp wr G n Pv St) (S : Addr) (hSf : S ∉ fp) (zs : List Str) (hn : zs.length = n) (hb : n + 1 < scanBound)
    (hv : ∀ i v, Pv i v → ∃ y u, zs[i]? = some y ∧ v = .str y u) :
    ∀ (k i : Nat) (s : Shared), n - i = k → i ≤ n → St i s → (∃ c, c ≤ i ∧ TSet P w s.heap S (fun y => decide (y ∈ zs.take i)) c) →
      (∀ s1 c, Moved (S :: wr) G s s1 → c ≤ n → TSet P w s1.heap S (fun y => decide (y ∈ zs)) c → R (.ok (.ret .none)) s1) →
      codeAny (model P w) A (.builtin "set.update.loop" ⟨[.ref S, .ref I], []⟩) R s := by
  have hSw : S ∉ wr := fun h => hSf (W.sub S h)
  have hsb : ∀ b ∈ wr, b ∈ S :: wr := fun b h => .tail _ h
  intro k
  induction k with
  | zero =>
    intro i s e1 e2 hst ⟨c, hc, hS⟩ hR
    obtain rfl : i = n := by omega
    refine codeAny_builtin F.entry_set_update_loop ?_; rw [Around.under_plainId F.plain_set_update_loop _]
    refine wpAny_bind (W.done s _ _ hst fun s1 hm => ?_)
    refine wpAny_pure (hR s1 c (hm.mono hsb) hc ((hS.at fun o e => hm.heap S o hSw e).congr fun y => ?_))
    rw [List.take_of_length_le (by omega)]
  | succ k ih =>
    intro i s e1 e2 hst ⟨c, hc, hS⟩ hR
    have hlt : i < n := by omega
    refine codeAny_builtin F.entry_set_update_loop ?_; rw [Around.under_plainId F.plain_set_update_loop _]
    refine wpAny_bind (W.item i s _ _ hlt hst fun v s1 hP hst1 hm => ?_)
    obtain ⟨y, u, hy, rfl⟩ := hv i v hP
    have hS1 := hS.at fun o e => hm.heap S o hSw e
    show wpAny _ A.in1 (holding [Value.str y u] (setAdd S (.str y u)) >>= _) _ _ s1
    refine wpAny_bind (wpAny_holding ?_)
    unfold setAdd
    refine wpAny_holding (wpAny_bind ((KS P w).pyHash (strKind_is P w y u) ?_))
    refine tset_add (s := { s1 with toks := s1.toks + 1 }) hS1 (by omega) fun h1 sb hS2 => ?_
    have hS3 : TSet P w h1 S (fun z => decide (z ∈ zs.take (i + 1))) (if (decide (y ∈ zs.take i)) = true then c else c + 1) := hS2.congr fun z => by
      rw [List.take_add_one, hy]
      simp
    refine wpAny_pure ⟨plainId_quiet F.plain_set_update_loop _, ih (i + 1) _ (by omega) hlt (W.frame _ s1 _ _ hst1 (Nat.le_succ _) fun b hbf o e => ?_) ⟨_, ?_, hS3⟩ fun s2 c2 hm2 hc2 hS4 => ?_⟩
    · rw [sb.2 b (fun z : b = S => hSf (z ▸ hbf))]
      exact e
    · split <;> omega
    · refine hR s2 c2 (Moved.trans W.gtrans ((hm.mono hsb).then_heap (Nat.le_succ _) fun b o hbw e => ?_) hm2) hc2 hS4
      rw [sb.2 b (fun z : b = S => hbw (z ▸ .head _))]
      exact e
end
end G69
namespace G69
open PySem PySem.Spec PyProof.Rows L2
/-! ### things that stay: tuples, instances -/
def firm : HO → Prop
  | .tup _ => True
  | .ins _ _ _ => True
  | _ => False
def Kf (H H' : Hp) : Prop := ∀ a o, H a = some o → firm o → H' a = some o
theorem Kf.rfl' {H : Hp} : Kf H H := fun _ _ h _ => h
theorem Kf.trans {H H1 H2 : Hp} (x : Kf H H1) (y : Kf H1 H2) : Kf H H2 := fun a o h f => y a o (x a o h f) f
theorem Kp.kf {H H' : Hp} (k : Kp [] H H') : Kf H H' := fun a o h _ => k a o h notnil
theorem Kf.new {H : Hp} {p : Addr} {o : HO} (h : H p = none) : Kf H (upd H p o) := (Kp.new h : Kp [] H _).kf
theorem Kf.lst {H : Hp} {p : Addr} {o : HO} {xs : List V} (h : H p = some (.lst xs)) : Kf H (upd H p o) := fun a u e f => by
  rw [upd_ne (ne_of e h (by rintro rfl; exact f))]
  exact e
theorem Dr.kf {H H' : Hp} {d l c : Addr} (D : Dr H d l c) (k : Kp [d, l] H H') : Kf H H' := fun a o h f => by
  obtain ⟨ls, cs, r, t, m, x⟩ := D
  exact k a o h (not2 (ne_of h x.dd (by rintro rfl; exact f)) (ne_of h x.hl (by rintro rfl; exact f)))
theorem Kf.tup {H H' : Hp} {a : Addr} {xs : List V} (k : Kf H H') (h : H a = some (.tup xs)) : H' a = some (.tup xs) := k _ _ h trivial
theorem Kf.ins {H H' : Hp} {a C dx : Addr} {fs : List (Str × V)} (k : Kf H H') (h : H a = some (.ins C dx fs)) : H' a = some (.ins C dx fs) := k _ _ h trivial
/-- off a drawing: a thing that stays -/
theorem Dr.offF {H : Hp} {d l c a : Addr} {o : HO} (D : Dr H d l c) (h : H a = some o) (f : firm o) : a ≠ d ∧ a ≠ l ∧ a ≠ c := by
  obtain ⟨ls, cs, r, t, m, x⟩ := D
  exact ⟨ne_of h x.dd (by rintro rfl; exact f), ne_of h x.hl (by rintro rfl; exact f), ne_of h x.hc (by rintro rfl; exact f)⟩
/-! ### in a comprehension's block -/
section
variable {X : Cx} {K : PySem.W.Frag}
theorem pg_tupK {es : List Expr} {k : Nat} {t : TGs} {n : Nat} {pos : Pos} (hK : X.K = K) (hc : X.calm = true) (hp : PGs X es t)
    (hn : (assignEach es X.env).length = n := by rfl) (hst : (assignEach es X.env).findIdx? (·.1) = none := by rfl) : PG X (.Tuple es k pos) (gTup K n t) := by
  subst hK
  exact pg_tup hc hp hn hst
theorem op_in_seqK (h : X.K = K) : OpR X (compareOp .In) (rIn K false) := by
  subst h
  exact op_in_seq
theorem op_notIn_seqK (h : X.K = K) : OpR X (compareOp .NotIn) (rIn K true) := by
  subst h
  exact op_notIn_seq
end
/-! ### methods of an own class -/
/-- a method that may be called -/
def Mth (P : Program) (w : World) (K : PySem.W.Frag) (mg : Str → Option Value) (base : Heap) (C : Addr) (m : Str) (ps : List Str) (k : Nat) (sp : Sp) : Prop :=
  ∃ (f : Addr) (fd : FuncData), FnOk P w K mg base CX0 k f fd ps sp ∧ Meth K C m f ∧ Binds K fd ps [] ∧ PySem.W.fnIn K f = true
section
variable {X : Cx} {C : Addr} {j k : Nat} {m : Str} {ps : List Str} {sp : Sp} {o a b e : Expr} {es : List Expr} {ta tb : TE} {t : TA} {p pos apos : Pos}
/-- x.m(e, ..) -/
theorem pe_mth {pl : Sem Bool} (he : PE X o ta) (T : Cls X.K C) (M : Mth X.prog X.w X.K X.mg X.base C m ps k sp) (hr : Room j X.A) (hj : k ≤ j) (ha : PA X (e :: es) t)
    (hst : starEach (e :: es) X.env = (false, eval e X.env) :: starEach es X.env := by rfl) (hpl : (backTo pos (starEach es X.env)).any (·.1) = false := by rfl)
    (ht : eval (.Call (.Attribute o m apos) (e :: es) [] pos) X.env = (do
      let ov ← eval o X.env
      standAt apos.atName
      let (f, first) ← holding [ov] (getMethod ov m pl)
      callWith pos f first (backTo pos (starEach (e :: es) X.env)) (backToKw pos (keywordEach [] X.env))) := by rfl) :
    PE X (.Call (.Attribute o m apos) (e :: es) [] pos) (tMeth C m sp [] E0 ta t) := by
  obtain ⟨f, fd, F, hm, hb, _⟩ := M
  exact pe_meth (pl := pl) he T hm F (hr.mono hj) hb .nil pass0 ha hst hpl ht
/-- the callee runs a step below -/
theorem run_fn1 {f : Addr} {fd : FuncData} {pins : List (Addr × Obj)} {σ : L2.St} {H : Hp} {s : Shared} {Q : VK} {us : List Value} {vs : List V} (F : FnOk X.prog X.w X.K X.mg X.base CX0 k f fd ps sp) (hr : Room (k + 1) X.A) (hb : Binds X.K fd ps [])
    (I : Inv X pins σ H s) (r : Vals vs us) (h : sp vs H Q E0) : wpAny (model X.prog X.w) X.A.in1 (call (.ref f) us) (EP X pins σ Q) X.xe s := by
  have hl : (us ++ []).length = ps.length := by
    rw [List.append_nil, ← r.length]
    exact F.len _ _ _ _ h
  have r2 : Vals vs (us ++ []) := by
    rw [List.append_nil]
    exact r
  refine wpAny_call (codeAny_mono (F.run X.A.in1 X.stack s H ⟨us, []⟩ (us ++ []) vs Q E0 hr.in1 I.env0.in1 (hb s us I.kIn hl) r2 h) fun r s' hq => ?_)
  cases r with
  | error e => exact pass0 pins σ H s e s' I hq
  | ok fl =>
    cases fl with
    | ret u => exact I.after hq
    | next => exact False.elim hq
    | brk => exact False.elim hq
    | cont => exact False.elim hq
/-- x[y], x an instance of the class at C with its own __getitem__ -/
def rIxO (C : Addr) (sp : Sp) : R2 := fun x y H Q => ∃ a dx fs, x = .ref a ∧ H a = some (.ins C dx fs) ∧ sp [.ref a, y] H Q E0
theorem pe_ixO (ha : PE X a ta) (hb : PE X b tb) (M : Mth X.prog X.w X.K X.mg X.base C "__getitem__" ps k sp) (hr : Room j X.A) (hj : k + 1 ≤ j)
    (hs : ∀ o i, subscripted b true o i = runValue (.builtin "lifetime.subscript" ⟨[o, i], []⟩) := by intro _ _; rfl) : PE X (.Subscript a b pos) (tOp (rIxO C sp) ta tb) := by
  obtain ⟨f, fd, F, hm, hbd, hfi⟩ := M
  refine ⟨fun pins s σ H Q I h => ?_⟩
  refine Subscript_ (binT ha hb I h fun v u s2 x y H2 I2 rx ry q => ?_)
  obtain ⟨p, dx, fs, rfl, ea, q⟩ := q
  cases (show v = Value.ref p from rx)
  obtain ⟨mA, O, _⟩ := ins_get I2.hok ea
  obtain ⟨od, J, _⟩ := O.look
  obtain ⟨m, hF⟩ := I2.fr
  exact PySem.W.sub_K hF I2.ok.mod.kin J hm.at_ hfi hm.fn (run_fn1 (vs := [.ref p, y]) F (hr.mono hj) hbd I2 (.cons rfl (.cons ry .nil)) q) (hs _ _)
end
end G69
namespace G69
open PySem PySem.Spec PyProof.Rows L2
/-! ### calls by keywords alone -/
structure KCal (P : Program) (w : World) (K : PySem.W.Frag) (mg : Str → Option Value) (base : Heap) (x : Str) (ks : List Str) (k : Nat) (sp : Sp) (gV : List V → List V) : Prop where
  ex : ∃ (f : Addr) (fd : FuncData) (ps : List Str) (g : List Value → List Value → List Value), FnOk P w K mg base CX0 k f fd ps sp ∧ mg x = some (.ref f) ∧ PySem.W.keepIn K (.ref f) = true ∧ KBn K fd ps 0 ks g (fun _ zs => gV zs)
theorem Def.kcal {P : Program} {w : World} {K : PySem.W.Frag} {mg : Str → Option Value} {base : Heap} {x : Str} {st : Stmt} {ps : List Str} {f : Addr} {fd : FuncData} {k : Nat} {sp : Sp} (D : Def K mg x st ps f fd) (G : FnOk P w K mg base CX0 k f fd ps sp) (ks : List Str)
    (g : {α : Type} → List α → List α) (hrel : ∀ {zs : List V} {ws : List Value}, Vals zs ws → Vals (g zs) (g ws))
    (hb : ∀ (kV doc pm : Value) (an : Option Addr) (cdv ct : Value) (ws : List Value), ws.length = ks.length → bindArgs (PySem.W.fnOf x x (defArgs st) (defBody st) (defScope st) .none kV doc pm an cdv ct) ⟨[], ks.zip ws⟩ = pure (ps.zip (g ws))) :
    KCal P w K mg base x ks k sp (fun zs => g zs) := by
  obtain ⟨oc, od, kV, doc, pm, an, cdv, ct, osl, e, lk, hcd⟩ := D.F.ex
  refine ⟨f, fd, ps, fun _ ws => g ws, G, D.g, D.F.kp, ⟨fun s us ws X l1 l2 => ?_, fun _ r => hrel r⟩⟩
  match us, l1 with
  | [], _ =>
    rw [e]
    exact .of_eq (hb kV doc pm an cdv ct ws l2)
theorem rev_vals {zs : List V} {ws : List Value} (h : Vals zs ws) : Vals zs.reverse ws.reverse := by
  induction h with
  | nil => exact .nil
  | cons r _ ih =>
    rw [List.reverse_cons, List.reverse_cons]
    exact ih.append (.cons r .nil)
section
variable {X : Cx}
theorem pe_kcal {x : Str} {ks : List Str} {k j : Nat} {sp : Sp} {gV : List V → List V} {kws : List Keyword} {tk : TA} {p pos : Pos} (C : KCal X.prog X.w X.K X.mg X.base x ks k sp gV) (hr : Room j X.A) (hj : k ≤ j) (hg : Gl X x) (hkw : PK X kws tk)
    (hall : (backToKw pos (keywordEach kws X.env)).all (·.1.isSome) = true := by rfl) (hks : (backToKw pos (keywordEach kws X.env)).filterMap (·.1) = ks := by rfl) (hdb : (x == ("__debug__" : Str)) = false := by decide)
    (hpl : ((backTo pos (starEach [] X.env)).any (·.1) || (backToKw pos (keywordEach kws X.env)).any (·.1.isNone)) = false := by rfl) :
    PE X (.Call (.Name x p) [] kws pos) (tCallN 0 ks.length sp (fun _ zs => gV zs) E0 tNil tk) := by
  obtain ⟨f, fd, ps, g, G, hm, kp, kb⟩ := C.ex
  refine ⟨fun pins s0 σ H Q I h0 => ?_⟩
  refine wpAny_Call_Name_kw (ld_glob I hg hm ?_ hdb)
  refine PySem.W.callWith_KW0 (h₀ := X.base) I.ok.mod.kin kp hall ?_ hpl
  refine thn (hkw.run pos pins s0 σ H _ I h0) fun wl s3 ⟨zl, H3, I3, rl, _, m2, q3⟩ => ⟨I3.kIn, ?_⟩
  rw [hks]
  exact run_fnN (us := []) (vs := []) G (hr.mono hj) kb pass0 I3 .nil rl rfl m2 q3
/-! ### text * n -/
def repS (z : Str) (n : Nat) : Str := ⟨(List.replicate n z.cps).foldl (· ++ ·) #[]⟩
theorem repS_list (z : Str) (n : Nat) : (repS z n).cps.toList = (List.replicate n z.cps.toList).flatten := by
  have gen : ∀ (n : Nat) (acc : Array Nat), ((List.replicate n z.cps).foldl (· ++ ·) acc).toList = acc.toList ++ (List.replicate n z.cps.toList).flatten := by
    intro n
    induction n with
    | zero => intro acc; simp
    | succ n ih =>
      intro acc
      rw [List.replicate_succ, List.foldl_cons, ih, List.replicate_succ, List.flatten_cons, Array.toList_append, List.append_assoc]
  have := gen n #[]
  exact this
theorem op_mulS : OpR X (binaryOp .Mult) (fun x y H Q => ∃ (z : Str) (n : Nat), x = .str z ∧ y = .int (n : Int) ∧ 2 ≤ n ∧ 0 < z.length ∧ z.length * n ≤ 1000000 ∧ n ≤ 1000000 ∧ Q (.str (repS z n)) H) := by
  intro pins s σ H x y v u Q I rx ry h
  obtain ⟨z, n, rfl, rfl, h2, hz, hl, hn, q⟩ := h
  obtain ⟨t, rfl⟩ := rx
  obtain ⟨t', rfl⟩ := ry
  have n1 : ¬ (n : Int) < 1 := by omega
  have n2 : ((n : Int) == 1 || z.length == 0) = false := by
    rw [Bool.or_eq_false_iff]
    exact ⟨by simpa using (show ¬ (n : Int) = 1 by omega), by simpa using (show ¬ z.length = 0 by omega)⟩
  have hlen : (repS z n).length = z.length * n := by
    show (repS z n).cps.size = _
    rw [← Array.length_toList, repS_list, List.length_flatten, List.map_replicate, List.sum_replicate_nat, Array.length_toList, Nat.mul_comm]
    rfl
  refine PySem.P.mul_str (by rw [Bool.or_eq_false_iff]; exact ⟨decide_eq_false (by omega), decide_eq_false (by omega)⟩) (fun _ _ => ?_) (fun _ _ => ?_) ?_
  · have h3 : (2 ^ 63 - 1) / (n : Int) ≥ (2 ^ 63 - 1) / 1000000 := by
      have : (1000000 : Int) ≥ n := by omega
      rw [ge_iff_le, Int.le_ediv_iff_mul_le (by omega)]
      have h4 : (2 ^ 63 - 1) / (1000000 : Int) * n ≤ (2 ^ 63 - 1) / (1000000 : Int) * 1000000 := Int.mul_le_mul_of_nonneg_left this (by decide)
      have h5 : (2 ^ 63 - 1) / (1000000 : Int) * 1000000 ≤ 2 ^ 63 - 1 := by decide
      omega
    have h6 : (z.length : Int) ≤ 1000000 := by
      have : z.length * 1 ≤ z.length * n := Nat.mul_le_mul_left _ (by omega)
      omega
    have h7 : (2 ^ 63 - 1) / (1000000 : Int) ≥ 1000000 := by decide
    omega
  · have e : ((n : Int)).toNat = n := Int.toNat_natCast n
    rw [e]
    exact decide_eq_false (Nat.not_lt.mpr (szle hl))
  · rw [if_neg n1, if_neg (by rw [n2]; decide)]
    have e : ((n : Int)).toNat = n := Int.toNat_natCast n
    rw [e]
    exact ⟨by show (repS z n).length ≤ sizeLine; rw [hlen]; exact szle hl, .str _, H, I.tok _, ⟨_, rfl⟩, q⟩
end
end G69
namespace G69
open PySem PySem.Spec PyProof.Rows L2
/-! ### == and != by an own __eq__ -/
section
variable {prog : Program} {w : World} {A : Around} {E : Value → Shared → Prop} {s : Shared} {K : PySem.W.Frag} {x C f : Addr} {ox : Obj} {od : Option Obj} {b tb : Value}
theorem ifBound_ne {Q : Option Value → Shared → Prop} (X : K.In s.heap) (I : PySem.W.InstAt s.heap x ox C od) (hs : PySem.W.findIn K (.ref C) "__ne__" = some (some (.builtin "object.__ne__")))
    (h : wpAny (model prog w) A (call (.builtin "object.__ne__") [.ref x, b]) (fun v => Q (some v)) E s) : wpAny (model prog w) A (callSpecialIfBound? (.ref x) "__ne__" [b]) Q E s := by
  have hb : ∀ self, bindSpecial (.builtin "object.__ne__") self = pure (.builtin "object.__ne__", [self]) := fun self =>
    (Slot.of (T := "object") (name := "__ne__") (owner := "object") (n := "__ne__") (by rw [typeLookup_type, builtinLookup_eq_fast]; kernel_rfl) (by decide +kernel) (by decide +kernel) (by decide +kernel) (.inl (by decide +kernel)) (by rw [isSubtype_type]; kernel_rfl)).bind self
  simp only [callSpecialIfBound?, bindSpecialIfBound?]
  refine wpAny_holding (wpAny_bind (wpAny_bind (wpAny_bind (I.type.here ((PySem.W.looks_findIn X hs).here ?_)))))
  simp only [hb]
  refine wpAny_bind (wpAny_askSetting (wpAny_ite ?_))
  have fin : wpAny (model prog w) A (call (.builtin "object.__ne__") ([.ref x] ++ [b]) >>= fun v => pure (some v)) Q E s := wpAny_bind (wpAny_mono h (fun v s' z => wpAny_pure z) fun _ _ z => z)
  split
  · exact wpAny_bind (wpAny_pure (wpAny_pure fin))
  · exact wpAny_tryCatch (wpAny_bind (wpAny_pure (wpAny_pure fin)))
theorem ne_own (hu : A.units + 1 < cLine) (X : K.In s.heap) (I : PySem.W.InstAt s.heap x ox C od) (hb : PySem.W.Looks (model prog w) s.heap (typeOf b) tb) (hn : PySem.W.notFirst K C tb = true)
    (hne : PySem.W.findIn K (.ref C) "__ne__" = some (some (.builtin "object.__ne__"))) (hob : PySem.W.mroIn K C (.type "object") = some true) (hs : PySem.W.findIn K (.ref C) "__eq__" = some (some (.ref f))) (hf : PySem.W.isFn K (.ref f) = true) {Q : Value → Shared → Prop}
    (h : wpAny (model prog w) A.in1 (call (.ref f) [.ref x, b]) (fun v s' => ∃ r, v = .bool r ∧ Q (.bool (!r)) s') E s) : wpAny (model prog w) A (richCompare .NotEq (.ref x) b) Q E s := by
  have sub : PySem.W.Looks (model prog w) s.heap (isInstance (.ref x) (.type "object")) true := I.type.andThen (PySem.W.looks_mroIn X hob)
  have ent : ∀ (R : Fin → Shared → Prop) (E2 : Value → Shared → Prop), wpAny (model prog w) A.in1 (call (.ref f) [.ref x, b]) (fun v s' => ∃ r, v = .bool r ∧ R (.done (.ret (.bool (!r)))) s') E2 s →
      wpAny (model prog w) A.in1 (Builtin.«object.__ne__» ⟨[.ref x, b], []⟩) R E2 s := by
    intro R E2 hc
    obtain ⟨hp, g, d, t, os⟩ := s
    unfold Builtin.«object.__ne__»
    repeat (first
      | with_reducible refine wpAny_cRoomFor (show A.in1.units < cLine from hu) ?_
      | (refine wpAny_bind (m := callSpecialIfBound? (.ref x) (Str.ofString "__eq__") [b]) (PySem.W.ifBound_K X I hs hf (wpAny_mono hc (fun r s' hr => ?_) fun _ _ e => e)))
      | wp_step)
    obtain ⟨r, rfl, hq⟩ := hr
    repeat (first | exact hq | exact wpAny_pure hq | exact wpAny_truthy_bool hq | (refine wpAny_bind (m := truthy (.bool _)) (wpAny_truthy_bool ?_)) | wp_step)
  have one : wpAny (model prog w) A (tryCompare (.ref x) "__ne__" b) (fun r s' => ∃ v, r = some v ∧ Q v s') E s := by
    unfold tryCompare
    refine wpAny_bind (ifBound_ne X I hne (wpAny_call (codeAny_call_builtin (by decide +kernel) F.cmpEntry_ne (PySem.W.check_slot F.cmpKind_ne F.cmpSplit_ne sub (F.cmpArgs_ne _ _) (ent _ _ (wpAny_mono h (fun v s' hv => ?_) fun _ _ e => e))))))
    obtain ⟨r, rfl, hq⟩ := hv
    exact ⟨r, rfl, wpAny_pure ⟨_, rfl, hq⟩⟩
  unfold richCompare
  simp only [oneThing_ref]
  refine wpAny_holding (wpAny_bind (wpAny_cRoomFor (Nat.lt_of_succ_lt hu) ?_))
  refine wpAny_bind (I.type.here (wpAny_bind (hb.here ?_)))
  split
  · rename_i q
    have e : PySem.W.subIn K tb (.ref C) = some false := by
      rcases Bool.or_eq_true_iff.mp hn with e | e
      · rw [beq_iff_eq.mp e] at q
        simp at q
      · exact beq_iff_eq.mp e
    refine wpAny_bind ((PySem.W.looks_subIn X e).here ?_)
    simp only [Bool.false_eq_true, if_false]
    refine wpAny_bind (wpAny_mono one (fun r s' z => ?_) fun _ _ e => e)
    obtain ⟨v, rfl, hq⟩ := z
    exact wpAny_pure hq
  · refine wpAny_bind (wpAny_pure ?_)
    simp only [Bool.false_eq_true, if_false]
    refine wpAny_bind (wpAny_mono one (fun r s' z => ?_) fun _ _ e => e)
    obtain ⟨v, rfl, hq⟩ := z
    exact wpAny_pure hq
end
section
variable {X : Cx} {C : Addr} {j k : Nat} {ps : List Str} {sp : Sp}
/-- x == y, x an instance of the class at C with its own __eq__ -/
def rEqO (K : PySem.W.Frag) (C : Addr) (sp : Sp) : R2 := fun x y H Q => ∃ a dx fs t, x = .ref a ∧ H a = some (.ins C dx fs) ∧ TyX K H y t ∧ PySem.W.notFirst K C t = true ∧ sp [.ref a, y] H (fun v H' => ∃ r, v = .bl r ∧ Q (.bl r) H') E0
theorem op_eqO (M : Mth X.prog X.w X.K X.mg X.base C "__eq__" ps k sp) (hr : Room j X.A) (hj : k + 1 ≤ j) : OpR X (compareOp .Eq) (rEqO X.K C sp) := by
  intro pins s σ H x y v u Q I rx ry h
  obtain ⟨a, dx, fs, t, rfl, ea, ty, hn, q⟩ := h
  obtain ⟨f, fd, F, hm, hbd, hfi⟩ := M
  cases (show v = Value.ref a from rx)
  obtain ⟨mA, O, _⟩ := ins_get I.hok ea
  obtain ⟨od, J, _⟩ := O.look
  obtain ⟨m, hF⟩ := I.fr
  obtain ⟨P, Z, p, _⟩ := kit_of I ry ty
  have hl : ([Value.ref a, u] ++ []).length = ps.length := by
    rw [← F.len _ _ _ _ q]
    rfl
  refine PySem.W.cmp_K (op := .Eq) hr.units0 hF I.ok.mod.kin J (Z.ty _ _ I.kIn p) hn hm.at_ hm.fn ?_
  refine wpAny_call (codeAny_mono (F.run X.A X.stack s H ⟨[.ref a, u], []⟩ ([.ref a, u] ++ []) [.ref a, y] _ E0 (hr.mono (by omega)) I.env0 (hbd s [.ref a, u] I.kIn hl) (.cons rfl (.cons ry .nil)) q) fun r s' hq => ?_)
  cases r with
  | error e => exact pass0 pins σ H s e s' I hq
  | ok fl =>
    cases fl with
    | ret u' =>
      obtain ⟨z, H', I', rz, r, rfl, qz⟩ := I.after hq
      cases (show u' = Value.bool r from rz)
      exact ⟨.bl r, H', I', rfl, qz⟩
    | next => exact False.elim hq
    | brk => exact False.elim hq
    | cont => exact False.elim hq
/-- x != y by the own __eq__ -/
def rNeO (K : PySem.W.Frag) (C : Addr) (sp : Sp) : R2 := fun x y H Q => ∃ a dx fs t, x = .ref a ∧ H a = some (.ins C dx fs) ∧ TyX K H y t ∧ PySem.W.notFirst K C t = true ∧ sp [.ref a, y] H (fun v H' => ∃ r, v = .bl r ∧ Q (.bl (!r)) H') E0
theorem op_neO (M : Mth X.prog X.w X.K X.mg X.base C "__eq__" ps k sp) (hne : PySem.W.findIn X.K (.ref C) "__ne__" = some (some (.builtin "object.__ne__"))) (hob : PySem.W.mroIn X.K C (.type "object") = some true) (hr : Room j X.A) (hj : k + 1 ≤ j) : OpR X (compareOp .NotEq) (rNeO X.K C sp) := by
  intro pins s σ H x y v u Q I rx ry h
  obtain ⟨a, dx, fs, t, rfl, ea, ty, hn, q⟩ := h
  obtain ⟨f, fd, F, hm, hbd, hfi⟩ := M
  cases (show v = Value.ref a from rx)
  obtain ⟨mA, O, _⟩ := ins_get I.hok ea
  obtain ⟨od, J, _⟩ := O.look
  obtain ⟨P, Z, p, _⟩ := kit_of I ry ty
  refine ne_own (hu_of hr) I.kIn J (Z.ty _ _ I.kIn p) hn hne hob hm.at_ hm.fn ?_
  refine wpAny_mono (run_fn1 (vs := [.ref a, y]) (us := [.ref a, u]) F (hr.mono hj) hbd I (.cons rfl (.cons ry .nil)) q) (fun w s' z => ?_) fun _ _ x => x
  obtain ⟨z, H', I', rz, r, rfl, qz⟩ := z
  cases (show w = Value.bool r from rz)
  exact ⟨r, rfl, .bl (!r), H', I', rfl, qz⟩
end
end G69
namespace G69
open PySem PySem.Spec PyProof.Rows L2
/-! ### built-ins by values -/
section
variable {X : Cx} {G : Gh} {x : Str} {id T' : String} {r : List V → Hp → VK → Prop} {f : FN} {e : Expr} {es : List Expr} {tA : TA3} {p pos : Pos}
theorem up_n (hl : CaL r G.M f) {σ : L2.St} {H : Hp} {Q : VK} (h : up G (tN f tA) σ H Q) : tCB r (upA G tA) σ H Q := by
  obtain ⟨px, Z, s, Q3, fm, h, k⟩ := h
  exact ⟨px, Z, s, _, fm, h, fun ts s1 hf vs Z1 H1 e1 f1 r1 => hl Z1 H1 vs ts _ Q f1.le r1 hf fun t q u Z3 H3 g r3 => k t s1 q u Z3 H3 (e1.trans g.zz) (f1.grow g) r3⟩
theorem q_bi (hc : CallR X (.builtin id) r) (hl : CaL r G.M f) (hg : Gl X x) (hm : X.mg x = none) (hv : bootBuiltins x = some (.builtin id)) (ha : PA X (e :: es) (upA G tA)) (hn : x ≠ "__name__" := by decide) (hdb : (x == ("__debug__" : Str)) = false := by decide)
    (he : starEach (e :: es) X.env = (false, eval e X.env) :: starEach es X.env := by rfl) (hpl : (backTo pos (starEach es X.env)).any (·.1) = false := by rfl) : PE X (.Call (.Name x p) (e :: es) [] pos) (up G (tN f tA)) :=
  PE.imp (pe_callB hc hg hm hv ha hn hdb he hpl) fun _ _ _ h => up_n hl h
theorem q_ty (hc : CallR X (.type T') r) (hl : CaL r G.M f) (hg : Gl X x) (hm : X.mg x = none) (hv : bootBuiltins x = some (.type T')) (ha : PA X (e :: es) (upA G tA)) (hn : x ≠ "__name__" := by decide) (hdb : (x == ("__debug__" : Str)) = false := by decide)
    (he : starEach (e :: es) X.env = (false, eval e X.env) :: starEach es X.env := by rfl) (hpl : (backTo pos (starEach es X.env)).any (·.1) = false := by rfl) : PE X (.Call (.Name x p) (e :: es) [] pos) (up G (tN f tA)) :=
  PE.imp (pe_callTy hc hg hm hv ha hn hdb he hpl) fun _ _ _ h => up_n hl h
end
def ints? : List T → Option (List Int)
  | [] => some []
  | .int i :: ts => (match ints? ts with
    | some ns => some (i :: ns)
    | none => none)
  | _ :: _ => none
def bls? : List T → Option (List Bool)
  | [] => some []
  | .bl i :: ts => (match bls? ts with
    | some ns => some (i :: ns)
    | none => none)
  | _ :: _ => none
def strs? : List T → Option (List Str)
  | [] => some []
  | .str i :: ts => (match strs? ts with
    | some ns => some (i :: ns)
    | none => none)
  | _ :: _ => none
theorem ints?_eq : ∀ {ts : List T} {ns : List Int}, ints? ts = some ns → ts = ns.map T.int
  | [], ns, h => by cases h; rfl
  | .int i :: ts, ns, h => by
    unfold ints? at h
    split at h
    · rename_i ms e
      cases h
      rw [ints?_eq e]
      rfl
    · cases h
  | .non :: _, _, h | .bl _ :: _, _, h | .str _ :: _, _, h | .ty _ :: _, _, h | .lst _ :: _, _, h | .tup _ :: _, _, h | .dic _ _ :: _, _, h | .err _ _ :: _, _, h | .ins _ _ :: _, _, h | .drw :: _, _, h | .scr _ :: _, _, h | .ob _ :: _, _, h => by cases h
theorem bls?_eq : ∀ {ts : List T} {ns : List Bool}, bls? ts = some ns → ts = ns.map T.bl
  | [], ns, h => by cases h; rfl
  | .bl i :: ts, ns, h => by
    unfold bls? at h
    split at h
    · rename_i ms e
      cases h
      rw [bls?_eq e]
      rfl
    · cases h
  | .non :: _, _, h | .int _ :: _, _, h | .str _ :: _, _, h | .ty _ :: _, _, h | .lst _ :: _, _, h | .tup _ :: _, _, h | .dic _ _ :: _, _, h | .err _ _ :: _, _, h | .ins _ _ :: _, _, h | .drw :: _, _, h | .scr _ :: _, _, h | .ob _ :: _, _, h => by cases h
theorem strs?_eq : ∀ {ts : List T} {ns : List Str}, strs? ts = some ns → ts = ns.map T.str
  | [], ns, h => by cases h; rfl
  | .str i :: ts, ns, h => by
    unfold strs? at h
    split at h
    · rename_i ms e
      cases h
      rw [strs?_eq e]
      rfl
    · cases h
  | .non :: _, _, h | .int _ :: _, _, h | .bl _ :: _, _, h | .ty _ :: _, _, h | .lst _ :: _, _, h | .tup _ :: _, _, h | .dic _ _ :: _, _, h | .err _ _ :: _, _, h | .ins _ _ :: _, _, h | .drw :: _, _, h | .scr _ :: _, _, h | .ob _ :: _, _, h => by cases h
theorem ints?_map : ∀ ns : List Int, ints? (ns.map T.int) = some ns
  | [] => rfl
  | n :: ns => by rw [List.map_cons, ints?, ints?_map ns]
theorem bls?_map : ∀ ns : List Bool, bls? (ns.map T.bl) = some ns
  | [] => rfl
  | n :: ns => by rw [List.map_cons, bls?, bls?_map ns]
theorem strs?_map : ∀ ns : List Str, strs? (ns.map T.str) = some ns
  | [] => rfl
  | n :: ns => by rw [List.map_cons, strs?, strs?_map ns]
theorem RpL.ints {M : Mo} {Z : Hp} : ∀ {ns : List Int} {vs : List V}, RpL M Z (ns.map T.int) vs → vs = ns.map V.int
  | [], _, .nil => rfl
  | _ :: _, _, .cons (.int _) r => by rw [RpL.ints r]; rfl
theorem RpL.bls {M : Mo} {Z : Hp} : ∀ {ns : List Bool} {vs : List V}, RpL M Z (ns.map T.bl) vs → vs = ns.map V.bl
  | [], _, .nil => rfl
  | _ :: _, _, .cons (.bl _) r => by rw [RpL.bls r]; rfl
theorem RpL.strs {M : Mo} {Z : Hp} : ∀ {ns : List Str} {vs : List V}, RpL M Z (ns.map T.str) vs → vs = ns.map V.str
  | [], _, .nil => rfl
  | _ :: _, _, .cons (.str _) r => by rw [RpL.strs r]; rfl
def minI (n : Int) (ns : List Int) : Int := ns.foldl min n
def maxI (n : Int) (ns : List Int) : Int := ns.foldl max n
theorem minI_mem : ∀ (ns : List Int) (n : Int), minI n ns ∈ n :: ns ∧ ∀ y ∈ n :: ns, minI n ns ≤ y
  | [], n => ⟨List.mem_cons_self, fun y hy => by rw [List.mem_singleton.mp hy]; exact Int.le_refl _⟩
  | m :: ns, n => by
    obtain ⟨h1, h2⟩ := minI_mem ns (min n m)
    have e : minI n (m :: ns) = minI (min n m) ns := rfl
    rw [e]
    refine ⟨?_, fun y hy => ?_⟩
    · rcases List.mem_cons.mp h1 with h | h
      · rw [h]
        by_cases c : n ≤ m
        · rw [Int.min_eq_left c]; exact List.mem_cons_self
        · rw [Int.min_eq_right (by omega)]; exact List.mem_cons_of_mem _ List.mem_cons_self
      · exact List.mem_cons_of_mem _ (List.mem_cons_of_mem _ h)
    · have h3 := h2 _ List.mem_cons_self
      rcases List.mem_cons.mp hy with rfl | hy
      · omega
      · rcases List.mem_cons.mp hy with rfl | hy
        · omega
        · exact h2 y (List.mem_cons_of_mem _ hy)
theorem maxI_mem : ∀ (ns : List Int) (n : Int), maxI n ns ∈ n :: ns ∧ ∀ y ∈ n :: ns, y ≤ maxI n ns
  | [], n => ⟨List.mem_cons_self, fun y hy => by rw [List.mem_singleton.mp hy]; exact Int.le_refl _⟩
  | m :: ns, n => by
    obtain ⟨h1, h2⟩ := maxI_mem ns (max n m)
    have e : maxI n (m :: ns) = maxI (max n m) ns := rfl
    rw [e]
    refine ⟨?_, fun y hy => ?_⟩
    · rcases List.mem_cons.mp h1 with h | h
      · rw [h]
        by_cases c : n ≤ m
        · rw [Int.max_eq_right c]; exact List.mem_cons_of_mem _ List.mem_cons_self
        · rw [Int.max_eq_left (by omega)]; exact List.mem_cons_self
      · exact List.mem_cons_of_mem _ (List.mem_cons_of_mem _ h)
    · have h3 := h2 _ List.mem_cons_self
      rcases List.mem_cons.mp hy with rfl | hy
      · omega
      · rcases List.mem_cons.mp hy with rfl | hy
        · omega
        · exact h2 y (List.mem_cons_of_mem _ hy)
theorem min_uniq {ns : List Int} {a b : Int} (h1 : a ∈ ns) (h2 : ∀ y ∈ ns, a ≤ y) (h3 : b ∈ ns) (h4 : ∀ y ∈ ns, b ≤ y) : a = b := by
  have := h2 b h3
  have := h4 a h1
  omega
theorem max_uniq {ns : List Int} {a b : Int} (h1 : a ∈ ns) (h2 : ∀ y ∈ ns, y ≤ a) (h3 : b ∈ ns) (h4 : ∀ y ∈ ns, y ≤ b) : a = b := by
  have := h2 b h3
  have := h4 a h1
  omega
def fLen : FN := fun ts P => match ts with
  | [.lst xs] => P (.int xs.length)
  | [.tup xs] => P (.int xs.length)
  | [.str z] => P (.int z.length)
  | [.scr n] => P (.int (n : Nat))
  | _ => False
def fMin : FN := fun ts P => match ts with
  | [.int i, .int j] => P (.int (min i j))
  | [.lst xs] => (match ints? xs with
    | some (n :: ns) => P (.int (minI n ns))
    | _ => False)
  | _ => False
def fMax : FN := fun ts P => match ts with
  | [.int i, .int j] => P (.int (max i j))
  | [.lst xs] => (match ints? xs with
    | some (n :: ns) => P (.int (maxI n ns))
    | _ => False)
  | _ => False
def fAbs : FN := fun ts P => match ts with
  | [.int i] => P (.int (if i < 0 then -i else i))
  | _ => False
def fInt : FN := fun ts P => match ts with
  | [.int i] => P (.int i)
  | _ => False
def fAll : FN := fun ts P => match ts with
  | [.lst xs] => (match bls? xs with
    | some bs => P (.bl (bs.all id))
    | _ => False)
  | _ => False
def fAny : FN := fun ts P => match ts with
  | [.lst xs] => (match bls? xs with
    | some bs => P (.bl (bs.any id))
    | _ => False)
  | _ => False
def fSum : FN := fun ts P => match ts with
  | [.lst xs] => (match ints? xs with
    | some ns => P (.int ns.sum)
    | _ => False)
  | _ => False
def fTuple : FN := fun ts P => match ts with
  | [.lst xs] => P (.tup xs)
  | [.tup xs] => P (.tup xs)
  | _ => False
def fList : FN := fun ts P => match ts with
  | [.lst xs] => P (.lst xs)
  | [.tup xs] => P (.lst xs)
  | [.str z] => P (.lst (sgns z))
  | _ => False
section
variable {X : Cx} {M : Mo}
abbrev rLen1 (K : PySem.W.Frag) : List V → Hp → VK → Prop := fun xs H Q => ∃ p ys, xs = [.ref p] ∧ (SqL K H p ys ∨ SqT K H p ys) ∧ Q (.int ys.length) H
abbrev rLen2 : List V → Hp → VK → Prop := fun xs H Q => ∃ z, xs = [.str z] ∧ z.length ≤ sizeLine ∧ Q (.int z.length) H
theorem l_len (hK : X.K = M.K) : CallR X (.builtin "len") (rOrN (rLen1 M.K) rLen2) := caOr (hK ▸ call_len_seq) call_len_str
theorem L_len : CaL (rOrN (rLen1 M.K) rLen2) M fLen := by
  intro Z H vs ts P Q l r h k
  unfold fLen at h
  split at h
  · cases r with
    | cons r rr =>
      cases rr
      cases r with
      | lst g n r => exact .inl ⟨_, _, rfl, .inl (.inl (.inl (l _ _ g))), by rw [← r.len]; exact (k _ h).same l (.int _)⟩
  · cases r with
    | cons r rr =>
      cases rr
      cases r with
      | tup g n r => exact .inl ⟨_, _, rfl, .inr (.inl (.inl (l _ _ g))), by rw [← r.len]; exact (k _ h).same l (.int _)⟩
  · cases r with
    | cons r rr =>
      cases rr
      cases r with
      | str hz => exact .inr ⟨_, rfl, hz, (k _ h).same l (.int _)⟩
  · cases r with
    | cons r rr =>
      cases rr
      cases r with
      | scr hs => exact .inl ⟨_, _, rfl, .inl (Same.sl l hs), (k _ h).same l (.int _)⟩
  · exact h.elim
abbrev rMin2 : List V → Hp → VK → Prop := fun xs H Q => ∃ i j, xs = [.int i, .int j] ∧ Q (.int (if j < i then j else i)) H
abbrev rMx2 : List V → Hp → VK → Prop := fun xs H Q => ∃ i j, xs = [.int i, .int j] ∧ Q (.int (if j > i then j else i)) H
theorem l_min (hK : X.K = M.K) (hc : X.calm = true) : CallR X (.builtin "min") (rOrN rMin2 (rMin M.K)) := caOr (call_min2 hc) (hK ▸ cr_min hc)
theorem l_max (hK : X.K = M.K) (hc : X.calm = true) : CallR X (.builtin "max") (rOrN rMx2 (rMax M.K)) := caOr (call_max2 hc) (hK ▸ cr_max hc)
theorem L_min : CaL (rOrN rMin2 (rMin M.K)) M fMin := by
  intro Z H vs ts P Q l r h k
  unfold fMin at h
  split at h
  · cases r with
    | cons r rr => cases rr with
      | cons r' rr =>
        cases rr; cases r; cases r'
        rename_i i j
        refine .inl ⟨_, _, rfl, ?_⟩
        have e : (if j < i then j else i) = min i j := by
          rw [Int.min_def]
          split <;> split <;> omega
        rw [e]
        exact (k _ h).same l (.int _)
  · split at h
    · rename_i n ns e
      cases r with
      | cons r rr =>
        cases rr
        cases r with
        | lst g n' r =>
          rw [ints?_eq e] at r
          have er := r.ints
          subst er
          refine .inr ⟨_, n :: ns, rfl, .inl (.inl (l _ _ g)), Nat.succ_pos _, fun m h1 h2 => ?_⟩
          have := minI_mem ns n
          rw [min_uniq h1 h2 this.1 this.2]
          exact (k _ h).same l (.int _)
    · exact h.elim
  · exact h.elim
theorem L_max : CaL (rOrN rMx2 (rMax M.K)) M fMax := by
  intro Z H vs ts P Q l r h k
  unfold fMax at h
  split at h
  · cases r with
    | cons r rr => cases rr with
      | cons r' rr =>
        cases rr; cases r; cases r'
        rename_i i j
        refine .inl ⟨_, _, rfl, ?_⟩
        have e : (if j > i then j else i) = max i j := by
          rw [Int.max_def]
          split <;> split <;> omega
        rw [e]
        exact (k _ h).same l (.int _)
  · split at h
    · rename_i n ns e
      cases r with
      | cons r rr =>
        cases rr
        cases r with
        | lst g n' r =>
          rw [ints?_eq e] at r
          have er := r.ints
          subst er
          refine .inr ⟨_, n :: ns, rfl, .inl (.inl (l _ _ g)), Nat.succ_pos _, fun m h1 h2 => ?_⟩
          have := maxI_mem ns n
          rw [max_uniq h1 h2 this.1 this.2]
          exact (k _ h).same l (.int _)
    · exact h.elim
  · exact h.elim
theorem L_abs : CaL (fun xs H Q => ∃ i, xs = [.int i] ∧ Q (.int (if i < 0 then -i else i)) H) M fAbs := by
  intro Z H vs ts P Q l r h k
  unfold fAbs at h
  split at h
  · cases r with
    | cons r rr =>
      cases rr; cases r
      exact ⟨_, rfl, (k _ h).same l (.int _)⟩
  · exact h.elim
theorem L_int : CaL (fun xs H Q => (∃ i, xs = [.int i] ∧ Q (.int i) H) ∨ ∃ k, xs = [.bl k] ∧ Q (.int (if k then 1 else 0)) H) M fInt := by
  intro Z H vs ts P Q l r h k
  unfold fInt at h
  split at h
  · cases r with
    | cons r rr =>
      cases rr; cases r
      exact .inl ⟨_, rfl, (k _ h).same l (.int _)⟩
  · exact h.elim
theorem l_all (hK : X.K = M.K) (hc : X.calm = true) : CallR X (.builtin "all") (rAll M.K) := hK ▸ cr_all hc
theorem l_any (hK : X.K = M.K) (hc : X.calm = true) : CallR X (.builtin "any") (rAny M.K) := hK ▸ cr_any hc
theorem l_sum (hK : X.K = M.K) (hc : X.calm = true) : CallR X (.builtin "sum") (rSum M.K) := hK ▸ cr_sum hc
theorem L_all : CaL (rAll M.K) M fAll := by
  intro Z H vs ts P Q l r h k
  unfold fAll at h
  split at h
  · split at h
    · rename_i bs e
      cases r with
      | cons r rr =>
        cases rr
        cases r with
        | lst g n' r =>
          rw [bls?_eq e] at r
          have er := r.bls
          subst er
          exact ⟨_, bs, rfl, .inl (.inl (l _ _ g)), (k _ h).same l (.bl _)⟩
    · exact h.elim
  · exact h.elim
theorem L_any : CaL (rAny M.K) M fAny := by
  intro Z H vs ts P Q l r h k
  unfold fAny at h
  split at h
  · split at h
    · rename_i bs e
      cases r with
      | cons r rr =>
        cases rr
        cases r with
        | lst g n' r =>
          rw [bls?_eq e] at r
          have er := r.bls
          subst er
          exact ⟨_, bs, rfl, .inl (.inl (l _ _ g)), (k _ h).same l (.bl _)⟩
    · exact h.elim
  · exact h.elim
theorem L_sum : CaL (rSum M.K) M fSum := by
  intro Z H vs ts P Q l r h k
  unfold fSum at h
  split at h
  · split at h
    · rename_i bs e
      cases r with
      | cons r rr =>
        cases rr
        cases r with
        | lst g n' r =>
          rw [ints?_eq e] at r
          have er := r.ints
          subst er
          exact ⟨_, bs, rfl, .inl (.inl (l _ _ g)), (k _ h).same l (.int _)⟩
    · exact h.elim
  · exact h.elim
abbrev rTupO (K : PySem.W.Frag) : List V → Hp → VK → Prop := fun xs H Q => ∃ p ys, xs = [.ref p] ∧ ((SqL K H p ys ∧ ∀ l, H l = none → Q (.ref l) (upd H l (.tup ys))) ∨ (SqT K H p ys ∧ Q (.ref p) H))
theorem l_tuple (hK : X.K = M.K) : CallR X (.type "tuple") (rTupO M.K) := hK ▸ call_tuple_of
theorem L_tuple : CaL (rTupO M.K) M fTuple := by
  intro Z H vs ts P Q l r h k
  unfold fTuple at h
  split at h
  · cases r with
    | cons r rr =>
      cases rr
      cases r with
      | lst g n r => exact ⟨_, _, rfl, .inl ⟨.inl (.inl (l _ _ g)), fun p np => (k _ h).made l np fun e s => .tup s n (r.mono e)⟩⟩
  · cases r with
    | cons r rr =>
      cases rr
      cases r with
      | tup g n r => exact ⟨_, _, rfl, .inr ⟨.inl (.inl (l _ _ g)), (k _ h).same l (.tup g n r)⟩⟩
  · exact h.elim
abbrev rLstO (K : PySem.W.Frag) : List V → Hp → VK → Prop := fun xs H Q => ∃ p ys, xs = [.ref p] ∧ (SqL K H p ys ∨ SqT K H p ys) ∧ ∀ l, H l = none → Q (.ref l) (upd H l (.lst ys))
abbrev rLstS : List V → Hp → VK → Prop := fun xs H Q => ∃ z : Str, xs = [.str z] ∧ z.length ≤ sizeLine ∧ ∀ l, H l = none → Q (.ref l) (upd H l (.lst (z.cps.toList.map fun c => V.str ⟨#[c]⟩)))
theorem l_list (hK : X.K = M.K) (hc : X.calm = true) : CallR X (.type "list") (rOrN (rLstO M.K) rLstS) := caOr (hK ▸ call_list_of) (call_listS hc)
theorem rp_sgns {Z : Hp} : ∀ cs : List Nat, RpL M Z (cs.map fun c => T.str ⟨#[c]⟩) (cs.map fun c => V.str ⟨#[c]⟩)
  | [] => .nil
  | c :: cs => .cons (.str (by show 1 ≤ sizeLine; decide)) (rp_sgns cs)
theorem L_list : CaL (rOrN (rLstO M.K) rLstS) M fList := by
  intro Z H vs ts P Q l r h k
  unfold fList at h
  split at h
  · cases r with
    | cons r rr =>
      cases rr
      cases r with
      | lst g n r => exact .inl ⟨_, _, rfl, .inl (.inl (.inl (l _ _ g))), fun p np => (k _ h).made l np fun e s => .lst s n (r.mono e)⟩
  · cases r with
    | cons r rr =>
      cases rr
      cases r with
      | tup g n r => exact .inl ⟨_, _, rfl, .inr (.inl (.inl (l _ _ g))), fun p np => (k _ h).made l np fun e s => .lst s n (r.mono e)⟩
  · cases r with
    | cons r rr =>
      cases rr
      cases r with
      | str hz => exact .inr ⟨_, rfl, hz, fun p np => (k _ h).made l np fun e s => .lst s (by rw [sgns_len]; exact hz) (rp_sgns _)⟩
  · exact h.elim
end
/-- list(x) as one's own -/
theorem qf_list {X : Cx} {G : Gh} {e : Expr} {tA : TA3} {p pos : Pos} (hK : X.K = G.M.K) (hc : X.calm = true) (hg : Gl X "list") (hm : X.mg "list" = none) (ha : PA X [e] (upA G tA)) 
    (he : starEach [e] X.env = (false, eval e X.env) :: starEach [] X.env := by rfl) (hpl : (backTo pos (starEach [] X.env)).any (·.1) = false := by rfl) : PE X (.Call (.Name "list" p) [e] [] pos) (upF G (tN fList tA)) :=
  PE.imp (pe_callTy (l_list hK hc) hg hm (by decide +kernel) ha (by decide) (by decide) he hpl) fun σ H Q ⟨px, Z, s, Q3, fm, h, k⟩ => ⟨px, Z, s, _, fm, h, fun ts s1 hf vs Z1 H1 e1 f1 r1 => by
    unfold fList at hf
    split at hf
    · cases r1 with
      | cons r rr =>
        cases rr
        cases r with
        | lst g n r => exact .inl ⟨_, _, rfl, .inl (.inl (.inl (f1.le _ _ g))), fun p np => let ⟨f2, hp, hno⟩ := f1.mute np; k _ s1 hf p Z1 _ e1 f2 hp hno ⟨_, upd_same, n, r⟩⟩
    · cases r1 with
      | cons r rr =>
        cases rr
        cases r with
        | tup g n r => exact .inl ⟨_, _, rfl, .inr (.inl (.inl (f1.le _ _ g))), fun p np => let ⟨f2, hp, hno⟩ := f1.mute np; k _ s1 hf p Z1 _ e1 f2 hp hno ⟨_, upd_same, n, r⟩⟩
    · cases r1 with
      | cons r rr =>
        cases rr
        cases r with
        | str hz => exact .inr ⟨_, rfl, hz, fun p np => let ⟨f2, hp, hno⟩ := f1.mute np; k _ s1 hf p Z1 _ e1 f2 hp hno ⟨_, upd_same, by rw [sgns_len]; exact hz, rp_sgns _⟩⟩
    · exact hf.elim⟩
/-! ### isinstance of built-in kinds -/
inductive Ki where
  | int | bool | str | list | tuple | dict
def Ki.nm : Ki → String
  | .int => "int"
  | .bool => "bool"
  | .str => "str"
  | .list => "list"
  | .tuple => "tuple"
  | .dict => "dict"
def isiT (k : Ki) : T → Option Bool
  | .non => some false
  | .bl _ => (match k with
    | .int => some true
    | .bool => some true
    | _ => some false)
  | .int _ => (match k with
    | .int => some true
    | _ => some false)
  | .str _ => (match k with
    | .str => some true
    | _ => some false)
  | .lst _ => (match k with
    | .list => some true
    | _ => some false)
  | .tup _ => (match k with
    | .tuple => some true
    | _ => some false)
  | .dic _ _ => (match k with
    | .dict => some true
    | _ => some false)
  | _ => none
def fIsi (k : Ki) : F1 := fun x P => match isiT k x with
  | some b => P (.bl b)
  | none => False
def fIsi2 (k j : Ki) : F1 := fun x P => match isiT k x, isiT j x with
  | some b, some c => P (.bl (b || c))
  | _, _ => False
def tyT : T → Option String
  | .non => some "NoneType"
  | .bl _ => some "bool"
  | .int _ => some "int"
  | .str _ => some "str"
  | .lst _ => some "list"
  | .tup _ => some "tuple"
  | .dic _ _ => some "dict"
  | _ => none
theorem isi_ty {k : Ki} {t : T} {b : Bool} (h : isiT k t = some b) : ∃ ty, tyT t = some ty := by
  cases t <;> first | exact ⟨_, rfl⟩ | cases h
theorem rp_ty {M : Mo} {Z H : Hp} {t : T} {v : V} {ty : String} (l : Same Z H) (r : Rp M Z t v) (h : tyT t = some ty) : TyX M.K H v (.type ty) := by
  cases r with
  | non => cases h; exact .base .non
  | bl c => cases h; exact .base (.bl c)
  | int c => cases h; exact .base (.int c)
  | str c => cases h; exact .base (.str _)
  | lst g n r => cases h; exact .base (.lst (l _ _ g))
  | tup g n r => cases h; exact .base (.tup (l _ _ g))
  | dic g n r => cases h; exact .base (.dK (l _ _ g))
  | _ => cases h
theorem isi_kit {K : PySem.W.Frag} {k : Ki} {t : T} {b : Bool} {ty : String} (h : isiT k t = some b) (h2 : tyT t = some ty) : PySem.W.kitOne K (.type ty) (.type k.nm) = some b := by
  cases t <;> cases h2 <;> cases k <;> cases h <;> exact kit_ty (by decide +kernel)
section
variable {X : Cx} {G : Gh} {e e2 : Expr} {te : TE3} {p p2 p3 pos tpos : Pos} {kk : Nat}
theorem q_isi {k : Ki} {x : Str} (hM : G.M = ⟨X.K, X.mg, G.M.D⟩) (hg : Gl X "isinstance") (hm : X.mg "isinstance" = none) (he : PE X e (up G te)) (hT : PE X (.Name x p2) (tC (.ty k.nm)))
    (hst : starEach [e, .Name x p2] X.env = (false, eval e X.env) :: starEach [.Name x p2] X.env := by rfl) (hst2 : starEach [.Name x p2] X.env = (false, eval (.Name x p2) X.env) :: starEach [] X.env := by rfl) (hpl : (backTo pos (starEach [.Name x p2] X.env)).any (·.1) = false := by rfl) :
    PE X (.Call (.Name "isinstance" p) [e, .Name x p2] [] pos) (up G (tUn3 (fIsi k) te)) :=
  PE.imp (pe_callB call_isi hg hm (by decide +kernel) (pa_cons he (pa_cons hT pa_nil hst2) hst) (by decide) (by decide) hst hpl) fun σ H Q ⟨px, Z, s, Q3, fm, h, kx⟩ => ⟨px, Z, s, _, fm, h, fun t s1 hf v Z1 H1 e1 f1 r1 => by
    unfold fIsi at hf
    split at hf
    · rename_i b hb
      obtain ⟨ty, hty⟩ := isi_ty hb
      have h1 := rp_ty f1.le r1 hty
      rw [show G.M.K = X.K by rw [hM]] at h1
      exact ⟨v, _, _, _, b, rfl, .ty k.nm, h1, isi_kit hb hty, kx _ s1 hf _ Z1 H1 e1 f1 (.bl _)⟩
    · exact hf.elim⟩
theorem q_isi2 {k j : Ki} {x y : Str} (hM : G.M = ⟨X.K, X.mg, G.M.D⟩) (hg : Gl X "isinstance") (hm : X.mg "isinstance" = none) (he : PE X e (up G te)) (hT : PE X (.Name x p2) (tC (.ty k.nm))) (hT2 : PE X (.Name y p3) (tC (.ty j.nm)))
    (hst : starEach [e, .Tuple [.Name x p2, .Name y p3] kk tpos] X.env = (false, eval e X.env) :: starEach [.Tuple [.Name x p2, .Name y p3] kk tpos] X.env := by rfl) (hpl : (backTo pos (starEach [.Tuple [.Name x p2, .Name y p3] kk tpos] X.env)).any (·.1) = false := by rfl) 
    (ha : PA X [.Tuple [.Name x p2, .Name y p3] kk tpos] (tCons (tTup (tCons (tC (.ty k.nm)) (tCons (tC (.ty j.nm)) tNil))) tNil) := by exact pa_cons (pe_tup (pa_cons (by assumption) (pa_cons (by assumption) pa_nil))) pa_nil) :
    PE X (.Call (.Name "isinstance" p) [e, .Tuple [.Name x p2, .Name y p3] kk tpos] [] pos) (up G (tUn3 (fIsi2 k j) te)) :=
  PE.imp (pe_callB call_isiT hg hm (by decide +kernel) (pa_cons he ha hst) (by decide) (by decide) hst hpl) fun σ H Q ⟨px, Z, s, Q3, fm, h, kx⟩ => ⟨px, Z, s, _, fm, h, fun t s1 hf v Z1 H1 e1 f1 r1 => by
    refine ⟨by show 2 ≤ sizeLine; decide, fun tp ntp => ?_⟩
    unfold fIsi2 at hf
    split at hf
    · rename_i b c hb hc
      obtain ⟨e2, f2⟩ := f1.new (o := .tup [.ty k.nm, .ty j.nm]) ntp
      obtain ⟨ty, hty⟩ := isi_ty hb
      have h1 := rp_ty f2.le (r1.mono e2) hty
      rw [show G.M.K = X.K by rw [hM]] at h1
      have h2 : PySem.W.kitOne X.K (.type ty) (.type k.nm) = some b := isi_kit hb hty
      have h2' : PySem.W.kitOne X.K (.type ty) (.type j.nm) = some c := isi_kit hc hty
      refine ⟨v, tp, _, .type ty, _, b || c, rfl, upd_same, .cons (.ty k.nm) (.cons (.ty j.nm) .nil), h1, ?_, kx _ s1 hf _ _ _ (e1.trans e2) f2 (.bl _)⟩
      exact kitAny_cons h2 (fun hb0 => by
        subst hb0
        rw [Bool.false_or]
        exact kitAny_cons h2' (fun hc0 => by subst hc0; exact kitAny_nil) fun hc1 => hc1) fun hb1 => by rw [hb1]; rfl
    · exact hf.elim⟩
end
/-! ### sep.join(texts) -/
@[irreducible] def fJoin (a : Str) : F1 := fun y P => match y with
  | .lst ts => (match strs? ts with
    | some ys => ((ys.map (·.length)).sum + ys.length * a.length ≤ 16777216 ∧ (Txt.join a ys).length ≤ sizeLine) ∧ P (.str (Txt.join a ys))
    | _ => False)
  | _ => False
/-- a method of a text -/
def tMs (f : Str → F1) (ta tb : TE3) : TE3 := fun s Q => ta s fun x s1 => match x with
  | .str a => tb s1 fun y s2 => f a y fun t => Q t s2
  | _ => False
theorem q_join {X : Cx} {G : Gh} {o e : Expr} {ta tb : TE3} {apos cpos : Pos} (hM : G.M = ⟨X.K, X.mg, G.M.D⟩) (ho : PE X o (up G ta)) (he : PE X e (up G tb))
    (hbase : attributeBase o "join" X.env (eval o X.env) = eval o X.env := by rfl)
    (hfew : ((backTo cpos (starEach [e] X.env)).all (fun x => !x.1) && (backToKw cpos (keywordEach [] X.env)).all (fun x => x.1.isSome) && decide ([e].length + ([] : List Keyword).length + (if ([] : List Keyword).isEmpty then 0 else 1) < 30)) = true := by rfl)
    (hline : (apos.endLine == cpos.line) = true := by rfl) (hs : starEach [e] X.env = (false, eval e X.env) :: starEach [] X.env := by rfl) (hplain : (backTo cpos (starEach [] X.env)).any (·.1) = false := by rfl) :
    PE X (.Call (.Attribute o "join" apos) [e] [] cpos) (up G (tMs fJoin ta tb)) :=
  PE.imp (pe_bm PySem.F.plainAttrs_str PySem.F.slot_str_join PySem.F.type_str_join mt_join ho (pa_cons he pa_nil hs) hbase hfew hline hs hplain) fun σ H Q ⟨px, Z, s, Q3, fm, h, k⟩ => ⟨px, Z, s, _, fm, h, fun x s1 h1 v Z1 H1 e1 f1 r1 => by
    split at h1
    · rename_i a
      cases r1
      refine ⟨rfl, px, Z1, s1, _, f1, h1, fun y s2 hf w Z2 H2 e2 f2 r2 => ?_⟩
      unfold fJoin at hf
      split at hf
      · split at hf
        · rename_i ys e
          cases r2 with
          | lst g n r =>
            rw [strs?_eq e] at r
            have er := r.strs
            subst er
            exact ⟨_, _, ys, rfl, rfl, .inl (.inl (.inl (f2.le _ _ g))), hf.1.1, k _ s2 hf.2 _ Z2 H2 (e1.trans e2) f2 (.str hf.1.2)⟩
        · exact hf.elim
      · exact hf.elim
    · exact h1.elim⟩
end G69
namespace G69
open PySem PySem.Spec PyProof.Rows L2
section
variable {P : Program} {w : World} {A : Around} {E : Value → Shared → Prop} {s : Shared}
abbrev newSetO (w : World) : Obj := { cls := .type "set", dict := none, data := .set #[] 0 (.fresh 0 0 (!w.params.followText "set-order")) }
theorem tset_fresh {h : Heap} {a : Addr} (ho : h.get? a = some (newSetO w)) : TSet P w h a (fun _ => false) 0 :=
  ⟨_, #[], 0, _, ⟨ho, ⟨rfl, rfl, rfl⟩, rfl⟩, ⟨fun e he => by simp at he, by simp, fun z => by simp⟩, ⟨by decide, by rfl, rfl⟩, List.Pairwise.nil, by
    show _ ∨ (!w.params.followText "set-order") = true
    cases w.params.followText "set-order"
    · exact .inr rfl
    · exact .inl rfl⟩
set_option maxRecDepth 100000 in
set_option maxHeartbeats 3200000 in
/-- set(text) -/
theorem set_text {x : Str} {t : Tok} {Q : Value → Shared → Prop} (hh : A.handled = none) (hb : x.cps.size + 1 < scanBound)
    (h : ∀ (h1 : Heap) (tk c : Nat), TSet P w h1 s.heap.objs.size (fun y => decide (y ∈ sgn x)) c → c ≤ x.cps.size → (∀ b o, s.heap.get? b = some o → h1.get? b = some o) → Q (.ref s.heap.objs.size) { s with heap := h1, toks := tk }) :
    wpAny (model P w) A (call (.type "set") [.str x t]) Q E s := by
  obtain ⟨c, tl, hmro⟩ := F.called_set.mro; have hmade := F.called_set.made; have hsub := F.called_set.sub
  refine wpAny_call (codeAny_of_tree ?_)
  show wpAny _ _ (callAny (.type "set") _) _ _ _
  refine wpAny_pure ⟨Code.quiet_builtin _ (by decide +kernel), codeAny_builtin F.entry_type_call ?_⟩; rw [Around.under_plain (weight_type_call_type "set" [.str x t] []) rfl]
  have h1 := F.called_set.notType; have h2 := F.called_set.canCreate; have hct := F.typeCall_set_1 (.str x t)
  repeat (any_goals (first | assumption | wp_step))
  refine codeAny_mono (code_set_led1 (.str x t) (E := E) (Q₁ := fun v s1 => v = .ref s.heap.objs.size ∧ s1 = { s with heap := s.heap.push (newSetO w) }) ⟨rfl, rfl⟩) fun r s1 hr => ?_
  cases r with
  | error e => exact hr
  | ok fl =>
    cases fl with
    | ret v =>
      obtain ⟨rfl, rfl⟩ := hr
      have hS : (s.heap.push (newSetO w)).get? s.heap.objs.size = some (newSetO w) := Heap.get?_push_size _ rfl
      have hT : Shared.TypeIs { s with heap := s.heap.push (newSetO w) } (.ref s.heap.objs.size) "set" := ⟨_, hS, rfl⟩
      have hli := F.called_set.init.lookup; have hbi := F.called_set.init.bind (.ref s.heap.objs.size)
      repeat (any_goals (first | assumption | wp_step))
      refine codeAny_mono (codeAny_call_builtin (R := wants (fun r s2 => r = .none ∧ ∃ h1 tk c, s2 = { s with heap := h1, toks := tk } ∧ TSet P w h1 s.heap.objs.size (fun y => decide (y ∈ sgn x)) c ∧ c ≤ x.cps.size ∧
          (∀ b o, s.heap.get? b = some o → h1.get? b = some o)) E) F.called_set.init.plain F.entry_set_init (check_set_init_1 hT ?_)) fun r2 s2 hr2 => ?_
      · have hsls := F.sub_str_set
        have hslf := F.sub_str_frozenset
        have hne : (Value.type "str" == Value.type "dict") = false := by decide
        unfold Builtin.«set.__init__» noKeywords Builtin.Frozenset.updateFrom
        generalize hPI : pyIter = PI
        wp_walk
        subst hPI
        refine wpAny_pyIter_str fun o St hW hSt => ?_
        refine wpAny_bind (wpAny_runValue ?_)
        have hz : (s.heap.push (newSetO w)).objs.size = s.heap.objs.size + 1 := Heap.size_push ..
        have hSf : s.heap.objs.size ∉ [(s.heap.push (newSetO w)).objs.size] := by
          rw [hz, List.mem_singleton]
          exact Nat.ne_of_lt (Nat.lt_succ_self _)
        refine tset_loop ((hW _ (by simp [hh])).toS) s.heap.objs.size hSf (sgn x) (sgn_len x) hb (fun i v hP => sgn_at hP) (x.cps.size - 0) 0 _ (by omega) (Nat.zero_le _) hSt ⟨0, Nat.le_refl _, ?_⟩ fun s3 c hm hc hS3 => ?_
        · exact (tset_fresh (Heap.get?_push_of_some _ hS)).congr fun y => by simp
        · obtain ⟨h1, g1, d1, tk1, os1⟩ := s3
          have eg : g1 = s.gens := hm.gens
          have ed : d1 = s.drawn := hm.drawn
          have eo : os1 = s.os := hm.os
          subst eg; subst ed; subst eo
          refine wpAny_pure (wpAny_pure ⟨rfl, h1, tk1, c, rfl, hS3, hc, fun b o e => ?_⟩)
          refine hm.heap b o (fun hmem => ?_) (Heap.get?_push_of_some _ (Heap.get?_push_of_some _ e))
          have lt := Heap.lt_size e
          rcases List.mem_cons.mp hmem with q | q
          · exact absurd q (Nat.ne_of_lt lt)
          · exact absurd (List.mem_singleton.mp q) (by rw [hz]; exact Nat.ne_of_lt (Nat.lt_succ_of_lt lt))
      · cases r2 with
        | error e => exact hr2
        | ok fl2 =>
          cases fl2 with
          | ret r =>
            obtain ⟨rfl, h1, tk, c, rfl, hS3, hc, hk⟩ := hr2
            repeat (any_goals (first | assumption | wp_step))
            exact h _ _ _ hS3 hc hk
          | _ => exact hr2.elim
    | _ => exact hr.elim
theorem strs_map : ∀ (l : List Value), (∀ v ∈ l, ∃ z u, v = Value.str z u) → StrsAre l (l.map fun v => match v with
    | .str z _ => z
    | _ => Str.empty)
  | [], _ => .nil
  | v :: l, h => by
    obtain ⟨z, u, rfl⟩ := h v (.head _)
    exact .cons z u (strs_map l fun y hy => h y (.tail _ hy))
/-- sorted(a set of texts) -/
theorem sorted_tset {a : Addr} {m : Str → Bool} {c : Nat} {Q : Value → Shared → Prop} (R : TSet P w s.heap a m c) (hh : A.handled = none) (hc : c < 64)
    (hQ : ∀ s1 p (out : Array Value) (d : Nat) (ys : List Str), (∀ b o, s.heap.get? b = some o → s1.heap.get? b = some o) → s1.gens = s.gens → s1.os = s.os → s.heap.objs.size ≤ p →
      s1.heap.get? p = some (seqObj "list" out d) → StrsAre out.toList ys → sortedS ys = true ∧ ys.Nodup ∧ (∀ y, y ∈ ys ↔ m y = true) ∧ ys.length = c → Q (.ref p) s1) :
    wpAny (model P w) A (call (.builtin "sorted") [.ref a]) Q E s := by
  obtain ⟨o, es, ep, tb, ⟨ho, hx, hd⟩, ⟨g, nd, hm⟩, ⟨hb, hf, hn⟩, hr, hl⟩ := R
  refine Calls.call_function_entry kind_sorted plain_sorted entry_sorted (args_sorted1 _) ?_
  unfold Builtin.«sorted»
  refine wpAny_bind (m := checkCount "sorted" 1 1 _) (wpAny_pure ?_)
  refine wpAny_bind (collect_set (A := A.in1) hh ⟨o, ho, hx.1, hd⟩ hf hb hr hl fun s1 vs k1 hz g1 o1 pm => ?_)
  have hvl : vs.length = c := by rw [pm.length_eq, List.length_map, Array.length_toList]; exact hn
  have hT : StrsAre vs (vs.map fun v => match v with
    | .str z _ => z
    | _ => Str.empty) := strs_map vs fun v hv => by
    obtain ⟨e, he, q⟩ := List.mem_map.mp (pm.mem_iff.mp hv)
    obtain ⟨z, u, e1, _⟩ := g e he
    exact ⟨z, u, by rw [← q]; exact e1⟩
  have pk : (vs.map fun v => match v with
    | .str z _ => z
    | _ => Str.empty).Perm (es.toList.map txtOf) := by
    have q := pm.map fun v => match v with
      | Value.str z _ => z
      | _ => Str.empty
    rw [List.map_map] at q
    exact q
  refine wpAny_bind (wpAny_newList ?_ (by rw [hvl, sizeLine_eq]; omega))
  have hoL : (s1.heap.push (seqObj "list" vs.toArray 0)).get? s1.heap.objs.size = some (seqObj "list" vs.toArray 0) := Heap.get?_push_size _ rfl
  refine wpAny_bind (wpAny_holding (wpAny_call_entry slot_list_sort ⟨_, hoL, rfl⟩ entry_list_sort (list_sort_treeK strKind_oneLt hoL hT.keysOf (fun v1 v2 rest e => keyKind_strs (by rw [← e]; exact hT)) (by rw [hvl]; exact hc) fun st hp hs => ⟨_, rfl, ?_⟩) (args_list_sort _)))
  obtain ⟨ys, a1, a2, a3⟩ := sorted_out_str hT hp hs
  obtain ⟨d, hd2⟩ := sortedHeap_at (vs := vs) (out := (arrOf st).map (·.2)) hoL
  have pn := a2.trans pk
  refine wpAny_pure ⟨_, rfl, hQ _ s1.heap.objs.size _ d ys (fun b u e => ?_) g1 o1 hz hd2 a1 ⟨a3, pn.nodup_iff.mpr nd, fun y => by rw [pn.mem_iff, ← hm y], ?_⟩⟩
  · have q := k1 b u e
    have lt := Heap.lt_size q
    show (sortedHeap (s1.heap.push (seqObj "list" vs.toArray 0)) s1.heap.objs.size vs _).get? b = some u
    rw [sortedHeap_old (Nat.ne_of_lt lt) (by rw [size_push']; exact Nat.lt_succ_of_lt lt)]
    exact Heap.get?_push_of_some _ q
  · rw [pn.length_eq, List.length_map, Array.length_toList]
    exact hn
end
/-! ### by values -/
def TSO (P : Program) (w : World) (a : Addr) (m : Str → Bool) (c : Nat) : HO := .ext fun h => TSet P w h a m c
section
variable {X : Cx}
theorem tso_new {w : World} {P : Program} {H : Hp} {h : Heap} {a : Addr} {m : Str → Bool} {c : Nat} (R : TSet P w h a m c) : ObjOk P w H h a (TSO P w a m c) := by
  have ⟨o, _, _, _, q, _⟩ := R
  exact ⟨R, ⟨o, q.1⟩, fun h1 h2 p k => TSet.at p k⟩
def rSetT (P : Program) (w : World) : List V → Hp → VK → Prop := fun xs H Q => ∃ x : Str, xs = [.str x] ∧ x.cps.size < 64 ∧ ∀ p c, H p = none → c ≤ x.cps.size → Q (.ref p) (upd H p (TSO P w p (fun y => decide (y ∈ sgn x)) c))
theorem cr_setT (hc : X.calm = true) : CallR X (.type "set") (rSetT X.prog X.w) := by
  intro pins s σ H xs us Q I r h
  obtain ⟨x, rfl, hb, q⟩ := h
  obtain ⟨u, rfl, ru⟩ := r.one
  obtain ⟨t, rfl⟩ := ru
  refine set_text (I.ok.hd hc) (by unfold scanBound; omega) fun h1 tk c new hcx hk => ?_
  exact ⟨.ref _, upd H s.heap.objs.size (TSO X.prog X.w s.heap.objs.size (fun y => decide (y ∈ sgn x)) c), I.laid (t' := tk) hk (Nat.le_refl _) (tso_new new), rfl, q _ c (I.hok.fresh (Nat.le_refl _)) hcx⟩
def rSortT (P : Program) (w : World) : List V → Hp → VK → Prop := fun vs H Q => ∃ (a : Addr) (m : Str → Bool) (c : Nat), vs = [V.ref a] ∧ H a = some (TSO P w a m c) ∧ c < 64 ∧
  ∀ (ys : List Str) (p : Addr), sortedS ys = true → ys.Nodup → (∀ y, y ∈ ys ↔ m y = true) → ys.length = c → H p = none → Q (.ref p) (upd H p (.lst (ys.map V.str)))
theorem cr_sortT (hc : X.calm = true) : CallR X (.builtin "sorted") (rSortT X.prog X.w) := by
  intro pins s σ H vs us Q I r h
  obtain ⟨a, m, c, rfl, ha, h64, q⟩ := h
  have R : TSet X.prog X.w s.heap a m c := (I.hok a _ ha).1
  rw [Vals.ref1 r]
  refine sorted_tset R (I.ok.hd hc) h64 fun s1 p out d ys k g o hp hg hi ⟨hs, nd, hm, hl⟩ => ?_
  have hlen : (ys.map V.str).length ≤ sizeLine := by rw [List.length_map, hl, sizeLine_eq]; omega
  have hn : H p = none := I.hok.fresh hp
  have J : Inv X pins σ (upd H p (.lst (ys.map V.str))) { s with heap := s1.heap, gens := s1.gens, drawn := s1.drawn, toks := s1.toks } :=
    I.call (ch := []) (Un.laid k hp hn) (I.hok.laid k hp ⟨hlen, out.toList, d, vals_of_strs hi, hg⟩) (by rw [g]; exact I.bare) (fun _ z => nomatch z)
  have e : s1 = { s with heap := s1.heap, gens := s1.gens, drawn := s1.drawn, toks := s1.toks } := by
    cases s1; cases s; cases o; rfl
  rw [e]
  exact ⟨.ref p, _, J, rfl, q ys p hs nd hm hl hn⟩
/-- what sorted(set(text)) gives -/
def SsOf (x : Str) (ys : List Str) : Prop := (sortedS ys = true ∧ ys.length ≤ x.cps.size) ∧ ys.Nodup ∧ ∀ y, y ∈ ys ↔ y ∈ sgn x
@[irreducible] def fSset : F1 := fun t Q => match t with
  | .str x => x.cps.size < 64 ∧ ∀ ys, SsOf x ys → Q (.lst (ys.map .str))
  | _ => False
theorem RpL.ofStrs {M : Mo} {Z : Hp} : ∀ {ys : List Str}, (∀ y ∈ ys, y.length ≤ sizeLine) → RpL M Z (ys.map T.str) (ys.map V.str)
  | [], _ => .nil
  | y :: ys, h => .cons (.str (h y (.head _))) (RpL.ofStrs fun z hz => h z (.tail _ hz))
theorem sgn_one {x y : Str} (h : y ∈ sgn x) : y.length ≤ sizeLine := by
  unfold sgn at h
  obtain ⟨d, _, rfl⟩ := List.mem_map.mp h
  exact (by decide : 1 ≤ sizeLine)
theorem q_sset {G : Gh} {e : Expr} {te : TE3} {p p2 q pos : Pos} (hM : G.M = ⟨X.K, X.mg, G.M.D⟩) (hc : X.calm = true) (hg : Gl X "sorted") (hm : X.mg "sorted" = none) (hg2 : Gl X "set") (hm2 : X.mg "set" = none) (he : PE X e (up G te))
    (hs : starEach [e] X.env = (false, eval e X.env) :: starEach [] X.env := by rfl) (hpl : (backTo q (starEach [] X.env)).any (·.1) = false := by rfl)
    (hs2 : starEach [.Call (.Name "set" p2) [e] [] q] X.env = (false, eval (.Call (.Name "set" p2) [e] [] q) X.env) :: starEach [] X.env := by rfl) (hpl2 : (backTo pos (starEach [] X.env)).any (·.1) = false := by rfl) :
    PE X (.Call (.Name "sorted" p) [.Call (.Name "set" p2) [e] [] q] [] pos) (up G (tUn3 fSset te)) :=
  PE.imp (pe_callB (cr_sortT hc) hg hm boot_sorted (pa_cons (pe_callTy (cr_setT hc) hg2 hm2 boot_set (pa_cons he pa_nil hs) (he := hs) (hpl := hpl)) pa_nil hs2) (he := hs2) (hpl := hpl2)) fun σ H Q ⟨px, Z, s, Q3, fm, h, k⟩ => ⟨px, Z, s, _, fm, h, fun x s1 hf v Z1 H1 e1 f1 r1 => by
    unfold fSset at hf
    split at hf
    · rename_i z
      cases r1
      obtain ⟨hz, hf⟩ := hf
      refine ⟨z, rfl, hz, fun a c hn hcx => ⟨a, _, c, rfl, upd_same, by omega, fun ys p3 h1 h2 h3 h4 hn3 => ?_⟩⟩
      have g1 : Gw Z1 H1 (upd Z1 a _) (upd H1 a (TSO X.prog X.w a (fun y => decide (y ∈ sgn z)) c)) := Gw.new f1.le hn (by trivial)
      have f2 := f1.grow g1
      have hys : SsOf z ys := ⟨⟨h1, h4 ▸ hcx⟩, h2, fun y => by rw [h3 y, decide_eq_true_eq]⟩
      have g3 : Gw (upd Z1 a _) (upd H1 a (TSO X.prog X.w a (fun y => decide (y ∈ sgn z)) c)) (upd (upd Z1 a _) p3 _) (upd (upd H1 a _) p3 (.lst (ys.map V.str))) := Gw.new f2.le hn3 (by trivial)
      refine k _ s1 (hf ys hys) _ _ _ ((e1.trans g1.zz).trans g3.zz) (f2.grow g3) (.lst upd_same ?_ (RpL.ofStrs fun y hy => sgn_one ((hys.2.2 y).1 hy)))
      rw [List.length_map, h4, sizeLine_eq]
      omega
    · exact hf.elim⟩
end
end G69
namespace G69
open PySem PySem.Spec PyProof.Rows L2
/-! ### the drawing -/
def w_L_take : Sp3 := fun ts Q _ => match ts with
  | [.drw, .int n] => (0 < n ∧ n < 1073741824) ∧ ∀ r, 0 ≤ r → r < n → Q (.int r)
  | _ => False
theorem core_draw {M : Mo} {Z H H' : Hp} {d l c : Addr} (hD : M.D = some (d, l, c)) (sz : Sz M.K M.mg Z H) (dr : DrOk M.D H Z) (D' : Dr H' d l c) (k : Kp [d, l] H H') : Core ⟨M, noT H, Z, none⟩ Z H' := by
  have dr2 := dr
  have le := sz.le
  have tb : TbOk M.K M.mg H' := Tb.kp (D := M.D) sz.tb dr (by rw [hD]; exact k)
  rw [hD] at dr
  refine ⟨fun a o e => k a o (le a o e) (not2 (ne_of_none e dr.2.1) (ne_of_none e dr.2.2.1)), fun _ _ q => q, fun a h1 h2 => absurd h1 h2, ?_, ?_, tb, sz.zt, noT_nt H⟩
  · show Kp (DS M.D) (noT H) H'
    rw [hD]
    exact (sameKp (noT_same H)).trans k
  · show DrOk M.D H' Z
    rw [hD]
    exact ⟨D', dr.2⟩
theorem lift_take {K : PySem.W.Frag} {mg : Str → Option Value} : ∀ vs H Q E, lift K mg w_L_take vs H Q E → spTake vs H Q E := by
  rintro vs H Q E ⟨D, Z, ts, P3, E3, le, dr, r, h, q, _⟩
  unfold w_L_take at h
  split at h
  · rename_i n
    cases r with
    | cons r rr =>
      cases rr with
      | cons r' rr =>
        cases rr
        cases r'
        cases r with
        | drw hD =>
          rename_i d l c
          have hD : D = some (d, l, c) := hD
          subst hD
          exact ⟨d, l, c, n, rfl, dr.1, h.1.1, h.1.2, fun r H' r0 r1 D' k => q _ (h.2 r r0 r1) _ Z H' (core_draw (M := ⟨K, mg, some (d, l, c)⟩) rfl le dr D' k) (.int _)⟩
  · exact h.elim
/-! ### fields -/
def tFd (c j : Nat) (te : TE3) : TE3 := fun s Q => te s fun t s1 => match t with
  | .ins c' ts => (match Nat.beq c c', ts[j]? with
    | true, some t => Q t s1
    | _, _ => False)
  | _ => False
theorem lookup_zip : ∀ {ns : List Str} {vs : List V} {j : Nat} {f : Str} {v : V}, ns.Nodup → ns[j]? = some f → vs[j]? = some v → (ns.zip vs).lookup f = some v
  | n :: ns, w :: vs, 0, f, v, _, h1, h2 => by
    cases h1; cases h2
    rw [List.zip_cons_cons, List.lookup_cons, beq_self_eq_true]
  | n :: ns, w :: vs, j + 1, f, v, nd, h1, h2 => by
    have ne : (f == n) = false := by
      rw [beq_eq_false_iff_ne]
      rintro rfl
      exact (List.nodup_cons.mp nd).1 (List.mem_of_getElem? (i := j) h1)
    rw [List.zip_cons_cons, List.lookup_cons, ne]
    exact lookup_zip (List.nodup_cons.mp nd).2 h1 h2
theorem lookup_no : ∀ {ns : List Str} {vs : List V} {f : Str}, f ∉ ns → (ns.zip vs).lookup f = none
  | [], _, _, _ => rfl
  | _ :: _, [], _, _ => rfl
  | n :: ns, v :: vs, f, h => by
    have ne : (f == n) = false := by
      rw [beq_eq_false_iff_ne]
      rintro rfl
      exact h List.mem_cons_self
    rw [List.zip_cons_cons, List.lookup_cons, ne]
    exact lookup_no fun m => h (List.mem_cons_of_mem _ m)
theorem zip_put : ∀ {ns : List Str} {vs : List V} {f : Str} {v : V}, ns.Nodup → ns[vs.length]? = some f → putF f v (ns.zip vs) = ns.zip (vs ++ [v])
  | n :: ns, [], f, v, _, h => by
    cases h
    rw [List.zip_nil_right, List.nil_append, List.zip_cons_cons, List.zip_nil_right]
    rfl
  | n :: ns, w :: vs, f, v, nd, h => by
    have ne : n ≠ f := by
      rintro rfl
      exact (List.nodup_cons.mp nd).1 (List.mem_of_getElem? (i := vs.length) h)
    show putF f v ((n, w) :: ns.zip vs) = (n, w) :: ns.zip (vs ++ [v])
    rw [putF, if_neg ne, zip_put (List.nodup_cons.mp nd).2 h]
  | [], vs, f, v, _, h => by cases h
/-- what of a class must be known: its place, and that the field is no attribute of the class -/
structure Cf (K : PySem.W.Frag) (mg : Str → Option Value) (c : Nat) : Prop where
  ex : ∃ C, mg (cn c) = some (.ref C)
  cl : ∀ C, mg (cn c) = some (.ref C) → Cls K C
  no : ∀ C, mg (cn c) = some (.ref C) → ∀ f ∈ fnm c, NoAttr K C f
theorem cfSame {mg : Str → Option Value} {c : Nat} {C C' : Addr} (h : mg (cn c) = some (.ref C)) (h' : mg (cn c) = some (.ref C')) : C = C' := by
  rw [h] at h'
  cases h'
  rfl
section
variable {X : Cx} {G : Gh} {e : Expr} {te : TE3} {c j : Nat} {f : Str} {pos : Pos}
theorem q_fd (hM : G.M = ⟨X.K, X.mg, G.M.D⟩) (F : Cf X.K X.mg c) (he : PE X e (up G te)) (hj : (fnm c)[j]? = some f) (hn : (fnm c).Nodup) (hb : attributeBase e f X.env (eval e X.env) = eval e X.env := by rfl) : PE X (.Attribute e f pos) (up G (tFd c j te)) :=
  PE.imp (pe_fld he hb) fun σ H Q ⟨px, Z, s, Q3, fm, h, k⟩ => ⟨px, Z, s, _, fm, h, fun t s1 ht v Z1 H1 e1 f1 r1 => by
    split at ht
    · split at ht
      · rename_i c' ts _ _ t hc hts
        have ec : c = c' := Nat.eq_of_beq_eq_true hc
        subst ec
        cases r1 with
        | ins g1 g2 g3 r =>
          rw [hM] at g1
          obtain ⟨w, hw, rw'⟩ := r.get hts
          exact ⟨_, _, _, _, w, rfl, f1.le _ _ g2, F.cl _ g1, F.no _ g1 f (List.mem_of_getElem? hj), lookup_zip hn hj hw, k _ s1 ht w Z1 H1 e1 f1 rw'⟩
      · exact ht.elim
    · exact ht.elim⟩
end
/-! ### methods, properties -/
structure Mt3 (P : Program) (w : World) (K : PySem.W.Frag) (mg : Str → Option Value) (base : Heap) (c : Nat) (m : Str) (ps : List Str) (k : Nat) (sp : Sp3) : Prop where
  cf : Cf K mg c
  no : m ∉ fnm c
  ex : ∃ (C f : Addr) (fd : FuncData), mg (cn c) = some (.ref C) ∧ FnOk P w K mg base (L2.CX P w) k f fd ps (lift K mg sp) ∧ Meth K C m f ∧ Binds K fd ps [] ∧ PySem.W.fnIn K f = true
structure Pr3 (P : Program) (w : World) (K : PySem.W.Frag) (mg : Str → Option Value) (base : Heap) (c : Nat) (m : Str) (k : Nat) (sp : Sp3) : Prop where
  cf : Cf K mg c
  ex : ∃ (C p g : Addr) (fd : FuncData), mg (cn c) = some (.ref C) ∧ PropOf K C m p g ∧ FnOk P w K mg base (L2.CX P w) k g fd ["self"] (lift K mg sp) ∧ Binds K fd ["self"] []
def tMt (c : Nat) (sp : Sp3) (E : XK3) (te : TE3) (ta : TA3) : TE3 := fun s Q => te s fun t s1 => match t with
  | .ins c' ts => (match Nat.beq c c' with
    | true => ta s1 fun as s2 => sp (.ins c' ts :: as) (fun r => Q r s2) E
    | false => False)
  | _ => False
def tPr (c : Nat) (sp : Sp3) (te : TE3) : TE3 := fun s Q => te s fun t s1 => match t with
  | .ins c' ts => (match Nat.beq c c' with
    | true => sp [.ins c' ts] (fun r => Q r s1) E03
    | false => False)
  | _ => False
/-- x[y] by an own __getitem__ -/
def tGi (c : Nat) (sp : Sp3) (te tb : TE3) : TE3 := fun s Q => te s fun t s1 => tb s1 fun y s2 => match t with
  | .ins c' ts => (match Nat.beq c c' with
    | true => sp [.ins c' ts, y] (fun r => Q r s2) E03
    | false => False)
  | _ => False
section
variable {X : Cx} {G : Gh} {o e : Expr} {es : List Expr} {te tb : TE3} {tA : TA3} {c k j : Nat} {m : Str} {ps : List Str} {sp : Sp3} {E3 : XK3} {E : XK} {pos apos : Pos}
theorem q_mt {pl : Sem Bool} (hM : G.M = ⟨X.K, X.mg, G.M.D⟩) (M : Mt3 X.prog X.w X.K X.mg X.base c m ps k sp) (hr : Room j X.A) (hj : k ≤ j) (L : Lets X G E3 E) (ho : PE X o (up G te)) (ha : PA X (e :: es) (upA G tA))
    (hst : starEach (e :: es) X.env = (false, eval e X.env) :: starEach es X.env := by rfl) (hpl : (backTo pos (starEach es X.env)).any (·.1) = false := by rfl)
    (ht : eval (.Call (.Attribute o m apos) (e :: es) [] pos) X.env = (do
      let ov ← eval o X.env
      standAt apos.atName
      let (f, first) ← holding [ov] (getMethod ov m pl)
      callWith pos f first (backTo pos (starEach (e :: es) X.env)) (backToKw pos (keywordEach [] X.env))) := by rfl) :
    PE X (.Call (.Attribute o m apos) (e :: es) [] pos) (up G (tMt c sp E3 te tA)) := by
  obtain ⟨C, f, fd, g, F, hm, hb, _⟩ := M.ex
  exact PE.imp (pe_meth (pl := pl) ho (M.cf.cl C g) hm F (hr.mono hj) hb .nil L.pass ha hst hpl ht) fun σ H Q ⟨px, Z, s, Q3, fm, h, k⟩ => ⟨px, Z, s, _, fm, h, fun t s1 ht v Z1 H1 e1 f1 r1 => by
    split at ht
    · split at ht
      · rename_i c' ts _ hc
        have ec : c = c' := Nat.eq_of_beq_eq_true hc
        subst ec
        cases r1 with
        | ins g1 g2 g3 r =>
          have g1' := g1
          rw [hM] at g1'
          have eC := cfSame g g1'
          subst eC
          refine ⟨_, _, _, rfl, f1.le _ _ g2, lookup_no M.no, px, Z1, s1, _, f1, ht, fun as s2 hs vs Z2 H2 e2 f2 r2 => ?_⟩
          show lift X.K X.mg sp (_ :: (vs ++ [])) H2 Q E
          rw [List.append_nil]
          exact lift_in hM f2 (.cons ((Rp.ins g1 g2 g3 r).mono e2) r2) hs L.imp fun t ht v Z' H' e' f' r' => k t s2 ht v Z' H' (e1.trans (e2.trans e')) f' r'
      · exact ht.elim
    · exact ht.elim⟩
theorem q_mt0 {pl : Sem Bool} (hM : G.M = ⟨X.K, X.mg, G.M.D⟩) (M : Mt3 X.prog X.w X.K X.mg X.base c m ps k sp) (hr : Room j X.A) (hj : k ≤ j) (L : Lets X G E3 E) (ho : PE X o (up G te))
    (ht : eval (.Call (.Attribute o m apos) [] [] pos) X.env = (do
      let ov ← eval o X.env
      standAt apos.atName
      let (f, first) ← holding [ov] (getMethod ov m pl)
      callWith pos f first (backTo pos (starEach [] X.env)) (backToKw pos (keywordEach [] X.env))) := by rfl) :
    PE X (.Call (.Attribute o m apos) [] [] pos) (up G (tMt c sp E3 te aNil)) := by
  obtain ⟨C, f, fd, g, F, hm, hb, _⟩ := M.ex
  exact PE.imp (pe_meth0 (pl := pl) ho (M.cf.cl C g) hm F (hr.mono hj) hb .nil L.pass ht) fun σ H Q ⟨px, Z, s, Q3, fm, h, k⟩ => ⟨px, Z, s, _, fm, h, fun t s1 ht v Z1 H1 e1 f1 r1 => by
    split at ht
    · split at ht
      · rename_i c' ts _ hc
        have ec : c = c' := Nat.eq_of_beq_eq_true hc
        subst ec
        cases r1 with
        | ins g1 g2 g3 r =>
          have g1' := g1
          rw [hM] at g1'
          have eC := cfSame g g1'
          subst eC
          refine ⟨_, _, _, rfl, f1.le _ _ g2, lookup_no M.no, ?_⟩
          exact lift_in hM f1 (.cons (Rp.ins g1 g2 g3 r) .nil) ht L.imp fun t ht v Z' H' e' f' r' => k t s1 ht v Z' H' (e1.trans e') f' r'
      · exact ht.elim
    · exact ht.elim⟩
theorem q_pr (hM : G.M = ⟨X.K, X.mg, G.M.D⟩) (M : Pr3 X.prog X.w X.K X.mg X.base c m k sp) (hr : Room j X.A) (hj : k + 1 ≤ j) (ho : PE X o (up G te)) (hab : attributeBase o m X.env (eval o X.env) = eval o X.env := by rfl) :
    PE X (.Attribute o m pos) (up G (tPr c sp te)) := by
  obtain ⟨C, p, g', fd, g, hp, F, hb⟩ := M.ex
  exact PE.imp (pe_prop (E := E0) ho (M.cf.cl C g) hp (FnOk.to0 F) (hr.mono hj) hb .nil pass0 hab) fun σ H Q ⟨px, Z, s, Q3, fm, h, k⟩ => ⟨px, Z, s, _, fm, h, fun t s1 ht v Z1 H1 e1 f1 r1 => by
    split at ht
    · split at ht
      · rename_i c' ts _ hc
        have ec : c = c' := Nat.eq_of_beq_eq_true hc
        subst ec
        cases r1 with
        | ins g1 g2 g3 r =>
          have g1' := g1
          rw [hM] at g1'
          have eC := cfSame g g1'
          subst eC
          refine ⟨_, _, _, rfl, f1.le _ _ g2, ?_⟩
          exact lift_in hM f1 (.cons (Rp.ins g1 g2 g3 r) .nil) ht (fun _ _ h => h.elim) fun t ht v Z' H' e' f' r' => k t s1 ht v Z' H' (e1.trans e') f' r'
      · exact ht.elim
    · exact ht.elim⟩
theorem q_gt (hM : G.M = ⟨X.K, X.mg, G.M.D⟩) (M : Mt3 X.prog X.w X.K X.mg X.base c "__getitem__" ps k sp) (hr : Room j X.A) (hj : k + 1 ≤ j) (ho : PE X o (up G te)) (he : PE X e (up G tb))
    (hs : ∀ o i, subscripted e true o i = runValue (.builtin "lifetime.subscript" ⟨[o, i], []⟩) := by intro _ _; rfl) : PE X (.Subscript o e pos) (up G (tGi c sp te tb)) := by
  obtain ⟨C, f, fd, g, F, hm, hb, hf⟩ := M.ex
  exact PE.imp (pe_ixO (C := C) (sp := fun vs H Q _ => lift X.K X.mg sp vs H Q E0) (k := k) ho he ⟨f, fd, FnOk.to0 F, hm, hb, hf⟩ hr hj hs) fun σ H Q ⟨px, Z, s, Q3, fm, h, k⟩ => ⟨px, Z, s, _, fm, h, fun t s1 ht0 v Z1 H1 e1 f1 r1 => ⟨px, Z1, s1, _, f1, ht0, fun y s2 ht w Z2 H2 e2 f2 r2 => by
    split at ht
    · split at ht
      · rename_i hc
        have ec := Nat.eq_of_beq_eq_true hc
        subst ec
        have r1' := r1.mono e2
        cases r1' with
        | ins g1 g2 g3 r =>
          have g1' := g1
          rw [hM] at g1'
          have eC := cfSame g g1'
          subst eC
          refine ⟨_, _, _, rfl, f2.le _ _ g2, ?_⟩
          exact lift_in hM f2 (.cons (Rp.ins g1 g2 g3 r) (.cons r2 .nil)) ht (fun _ _ h => h.elim) fun t ht v Z' H' e' f' r' => k t s2 ht v Z' H' (e1.trans (e2.trans e')) f' r'
      · exact ht.elim
    · exact ht.elim⟩⟩
end
/-! ### dicts read by a key -/
def keyT : T → Option Key
  | .int i => some (.inl i)
  | .str z => some (.inr z)
  | _ => none
def getK : List Key → List T → Key → Option T
  | k :: ks, t :: ts, q => if k = q then some t else getK ks ts q
  | _, _, _ => none
def fDg : F2 := fun x y P => match x with
  | .dic ks ts => (match keyT y with
    | some k => (match getK ks ts k with
      | some t => P t
      | none => False)
    | none => False)
  | _ => False
theorem getK_rp {M : Mo} {Z : Hp} : ∀ {ks : List Key} {ts : List T} {vs : List V} {k : Key} {t : T}, RpL M Z ts vs → getK ks ts k = some t → ∃ v, valV (ks.zip vs) k = some v ∧ Rp M Z t v
  | k' :: ks, t' :: ts, v :: vs, k, t, .cons r rr, h => by
    unfold getK at h
    by_cases e : k' = k
    · rw [if_pos e] at h
      cases h
      exact ⟨v, valV_pos e, r⟩
    · rw [if_neg e] at h
      obtain ⟨w, h1, h2⟩ := getK_rp rr h
      exact ⟨w, by rw [List.zip_cons_cons, valV_neg e]; exact h1, h2⟩
  | [], _, _, _, _, _, h => by cases h
  | _ :: _, [], _, _, _, _, h => by cases h
theorem q_dg {X : Cx} {G : Gh} {o e : Expr} {ta tb : TE3} {pos : Pos} (hu : X.A.units + 1 < cLine) (ho : PE X o (up G ta)) (he : PE X e (up G tb)) (hs : NoSl e) : PE X (.Subscript o e pos) (up G (tBin fDg ta tb)) :=
  PE.imp (pe_dget hu ho he hs) fun σ H Q ⟨px, Z, s, Q3, fm, h, k⟩ => ⟨px, Z, s, _, fm, h, fun x s1 h1 v Z1 H1 e1 f1 r1 => ⟨px, Z1, s1, _, f1, h1, fun y s2 hf w Z2 H2 e2 f2 r2 => by
    unfold fDg at hf
    split at hf
    · split at hf
      · split at hf
        · rename_i ks ts _ kk hk _ t ht
          have r1' := r1.mono e2
          cases r1' with
          | dic g n r =>
            obtain ⟨u, u1, u2⟩ := getK_rp r ht
            have ew : w = kV kk := by
              cases r2 with
              | int i => cases hk; rfl
              | str z => cases hk; rfl
              | _ => cases hk
            subst ew
            refine ⟨_, u, rfl, ?_, k t s2 hf u Z2 H2 (e1.trans e2) f2 u2⟩
            have := DGet.k (k := kk) (f2.le _ _ g)
            rw [u1] at this
            exact this
        · exact hf.elim
      · exact hf.elim
    · exact hf.elim⟩⟩
end G69
namespace G69
open PySem PySem.Spec PyProof.Rows L2
/-! ### new instances -/
def hid (H : Hp) (p : Addr) : Hp := fun a => if a = p then none else H a
theorem hid_ne {H : Hp} {p a : Addr} (h : a ≠ p) : hid H p a = H a := if_neg h
theorem hid_same {H : Hp} {p : Addr} : hid H p p = none := if_pos rfl
def liftI (K : PySem.W.Frag) (mg : Str → Option Value) (c : Nat) (sp : Sp3) : Sp := fun vs H Q E => ∃ D Z ts P3 E3 p dx C vs', vs = .ref p :: vs' ∧ mg (cn c) = some (.ref C) ∧ H p = some (.ins C dx []) ∧ Sz K mg Z H ∧ Z p = none ∧ Z dx = some (.own p) ∧ offD D p ∧ DrOk D H Z ∧ RpL ⟨K, mg, D⟩ Z ts vs' ∧ sp ts P3 E3 ∧
  (∀ t, P3 t → ∀ Z' H', Core ⟨⟨K, mg, D⟩, noT (hid H p), Z, none⟩ Z' H' → Z' p = none → Ow ⟨K, mg, D⟩ (some p) Z' H' t p → Q .non H') ∧
  (∀ c fs, E3 c fs → ∀ cls od Z' H', Core ⟨⟨K, mg, D⟩, noT (hid H p), Z, none⟩ Z' H' → Xr ⟨K, mg, D⟩ (noT (hid H p)) Z' H' c fs cls od → E cls od H')
def finI (Q : T → Prop) : S3 → Prop
  | .ow (.ins c ts) :: _ => Q (.ins c ts)
  | _ => False
def spI (n m c : Nat) (W : XK3 → TS3) : Sp3 := fun ts Q E => match lenIs ts m with
  | true => W E { nx := finI Q, rt := fun _ => False } (.ow (.ins c []) :: start3 n ts)
  | false => False
theorem fm_startI {M : Mo} {Z H : Hp} {ts : List T} {vs : List V} {c : Nat} {p dx C : Addr} (x : Str) (N : List Str) (g : M.mg (cn c) = some (.ref C)) (hp : H p = some (.ins C dx [])) (l : Sz M.K M.mg Z H) (zp : Z p = none) (zd : Z dx = some (.own p)) (op : offD M.D p) (d : DrOk M.D H Z) (r : RpL M Z ts vs) :
    Fm ⟨M, noT (hid H p), Z, some p⟩ (fun _ => none) Z H (L2.start (x :: N) (.ref p :: vs)) (.ow (.ins c []) :: start3 N.length ts) := by
  have f := fm_start N l d r
  have e : L2.start (x :: N) (.ref p :: vs) = some (.ref p) :: L2.start N vs := by
    unfold L2.start
    rw [List.map_cons, List.cons_append, List.length_cons, List.length_cons, Nat.add_sub_add_right]
  rw [e]
  refine ⟨⟨l.le, fun _ _ q => q, fun a h1 h2 => absurd h1 h2, fun a o q _ => ?_, d, l.tb, l.zt, noT_nt _⟩, ?_, fun i t h => ?_, fun i t h => ?_, fun i j a t u h1 h2 g1 g2 => ?_, fun a o q => by cases q⟩
  · have q : hid H p a = some o := (noT_some q).1
    by_cases ha : a = p
    · subst ha
      have q : hid H a a = some o := q
      rw [hid_same] at q
      cases q
    · have q : hid H p a = some o := q
      rw [hid_ne ha] at q
      exact q
  · rw [List.length_cons, List.length_cons]
    exact congrArg Nat.succ f.len
  · cases i with
    | zero => cases h
    | succ i => exact f.sh i t h
  · cases i with
    | zero =>
      cases h
      exact ⟨p, rfl, ⟨zp, noT_none hid_same, rfl, op⟩, fun _ e => Option.some.inj e, C, dx, [], g, by rw [List.zip_nil_right]; exact hp, zd, .nil⟩
    | succ i =>
      obtain ⟨_, _, _, _⟩ := f.ow i t h
      exfalso
      have := f.ow i t h
      obtain ⟨a, _, ⟨_, hn, _⟩, ow⟩ := this
      obtain ⟨o, ho⟩ := ow.at
      have hn : noT H a = none := hn
      rw [noT_of ho (ow.nt ho)] at hn
      cases hn
  · cases i with
    | zero => cases j with
      | zero => rfl
      | succ j =>
        exfalso
        obtain ⟨a, _, ⟨_, hn, _⟩, ow⟩ := f.ow j u h2
        obtain ⟨o, ho⟩ := ow.at
        have hn : noT H a = none := hn
        rw [noT_of ho (ow.nt ho)] at hn
        cases hn
    | succ i =>
      exfalso
      obtain ⟨a, _, ⟨_, hn, _⟩, ow⟩ := f.ow i t h1
      obtain ⟨o, ho⟩ := ow.at
      have hn : noT H a = none := hn
      rw [noT_of ho (ow.nt ho)] at hn
      cases hn
section
variable {P : Program} {w : World} {K : PySem.W.Frag} {mg : Str → Option Value} {base : Heap}
/-- the rule for an __init__ -/
theorem fnI {qual x0 : Str} {st : Stmt} {dvs : List V} {kws : List (Str × V)} {f : Addr} {fd : FuncData} {N ps : List Str} {k c : Nat} {W : XK3 → TS3} (F : FunD K "__init__" qual (defArgs st) (defBody st) (defScope st) dvs kws f fd) (S : FnScope (x0 :: N) (x0 :: ps) (defScope st))
    (hb : ∀ (cdv : Value) (A : Around) (outer : List Env) (s : Shared) (H : Hp) (E : XK) (G : Gh) (E3 : XK3), Room k (A.deeper (envOfC qual (defScope st) s.heap.objs.size f cdv)) → G.M = ⟨K, mg, G.M.D⟩ →
      Lets (cxOf (L2.CX P w) P w K mg base (x0 :: N) qual (defScope st) f cdv A outer s H E) G E3 E → PSs (cxOf (L2.CX P w) P w K mg base (x0 :: N) qual (defScope st) f cdv A outer s H E) (defBody st) (upS G (W E3))) :
    FnOk P w K mg base (L2.CX P w) (k + 1) f fd (x0 :: ps) (liftI K mg c (spI N.length ps.length c W)) := by
  refine F.ok S (fun vs H Q E h => ?_) (fun cdv A outer s H vs Q E hr h => ?_)
  · obtain ⟨D, Z, ts, P3, E3, p, dx, C, vs', rfl, _, _, _, _, _, _, _, r, h, _⟩ := h
    unfold spI at h
    split at h
    · rename_i e
      rw [List.length_cons, List.length_cons, ← r.len, lenIs_eq e]
    · exact h.elim
  · obtain ⟨D, Z, ts, P3, E3, p, dx, C, vs', rfl, g, hp, l, zp, zd, op, d, r, h, q, qx⟩ := h
    unfold spI at h
    split at h
    · have L : Lets (cxOf (L2.CX P w) P w K mg base (x0 :: N) qual (defScope st) f cdv A outer s H E) ⟨⟨K, mg, D⟩, noT (hid H p), Z, some p⟩ E3 E :=
        ⟨passes_call (takes_of rfl rfl rfl rfl) fun _ _ _ _ h => h, fun c fs he cls od Z' H' co xr => qx c fs he cls od Z' H' ⟨co.le, co.z0, co.nw, co.kp, co.dr, co.tb, co.zt, co.h0⟩ xr, takes_of rfl rfl rfl rfl⟩
      refine ⟨_, hb cdv A outer s H E ⟨⟨K, mg, D⟩, noT (hid H p), Z, some p⟩ E3 hr rfl L, _, Z, _, _, fm_startI (M := ⟨K, mg, D⟩) x0 N g hp l zp zd op d r, h, ⟨fun s' h' σ' Z' H' e' f' => ?_, fun t ht => ht.elim, fun s' h' => h'.elim, fun s' h' => h'.elim, fun _ _ h' => h'.elim⟩⟩
      have h' : finI P3 s' := h'
      unfold finI at h'
      split at h'
      · rename_i c' ts' rest
        obtain ⟨a, a1, a2, a3⟩ := f'.ow 0 _ rfl
        have ea : a = p := a3.1 p rfl
        subst ea
        exact q _ h' Z' H' ⟨f'.le, f'.z0, f'.nw, f'.kp, f'.dr, f'.tb, f'.zt, f'.h0⟩ a2.1 a3
      · exact h'.elim
    · exact h.elim
end
/-- self.f = e -/
def sFs (c j : Nat) (te : TE3) : TS3 := fun D s => te s fun y (s1 : S3) => match s1[(0 : Nat)]? with
  | some (.ow (.ins c' ts)) => (match Nat.beq c c' && Nat.beq ts.length j with
    | true => D.nx (s1.set 0 (.ow (.ins c (ts ++ [y]))))
    | false => False)
  | _ => False
theorem q_fs {X : Cx} {G : Gh} {e : Expr} {te : TE3} {c j : Nat} {x f : Str} {p1 p2 pos : Pos} (hM : G.M = ⟨X.K, X.mg, G.M.D⟩) (F : Cf X.K X.mg c) (hj : (fnm c)[j]? = some f) (hn : (fnm c).Nodup) (hl : (fnm c).length ≤ 900) (he : PE X e (up G te)) (hN : X.N[0]? = some x := by rfl)
    (hv : Vis X.env.scope x := by first | exact Or.inl rfl | exact Or.inr (Or.inl rfl) | exact Or.inr (Or.inr rfl)) (hd : (x == ("__debug__" : Str)) = false := by decide) (hcd : (x == ("__classdict__" : Str)) = false := by decide)
    (hs : swapsWith e (some (.Attribute (.Name x p1) f p2)) pos.line X.env = pure false := by rfl) : PS X (.Assign [.Attribute (.Name x p1) f p2] e pos) (upS G (sFs c j te)) :=
  PS.imp (ps_fld (pv 0 hN hv hd hcd) he hs) fun D σ H ⟨px, Z, s, D3, fm, h, k⟩ => ⟨px, Z, s, _, fm, h, fun y s1 ht v Z1 H1 e1 f1 r1 => by
    split at ht
    · rename_i c' ts e0
      split at ht
      · rename_i hb
        rw [Bool.and_eq_true] at hb
        have ec := Nat.eq_of_beq_eq_true hb.1
        have el := Nat.eq_of_beq_eq_true hb.2
        subst ec
        obtain ⟨a, a1, a2, a3⟩ := f1.ow 0 _ e0
        obtain ⟨hq, C, dx, vs, g1, g2, g3, g4⟩ := a3
        have g1' := g1
        rw [hM] at g1'
        have hvl : vs.length = j := by rw [← g4.len, el]
        refine ⟨_, a1, _, C, dx, _, rfl, g2, F.cl C g1', F.no C g1' f (List.mem_of_getElem? hj), ?_, ?_⟩
        · rw [List.length_zip]
          omega
        · rw [zip_put hn (by rw [hvl]; exact hj)]
          exact k.nx _ ht σ Z1 _ e1 (f1.put e0 a1 ⟨hq, C, dx, vs ++ [v], g1, upd_same, g3, g4.app (.cons r1 .nil)⟩)
      · exact ht.elim
    · exact ht.elim⟩
structure Mk3 (P : Program) (w : World) (K : PySem.W.Frag) (mg : Str → Option Value) (base : Heap) (c : Nat) (ps : List Str) (k : Nat) (sp : Sp3) : Prop where
  ex : ∃ (C f : Addr) (fd : FuncData), mg (cn c) = some (.ref C) ∧ Mk K C f ∧ FnOk P w K mg base (L2.CX P w) k f fd ps (liftI K mg c sp) ∧ Binds K fd ps []
structure MkK3 (P : Program) (w : World) (K : PySem.W.Frag) (mg : Str → Option Value) (base : Heap) (c : Nat) (ps ks : List Str) (k : Nat) (sp : Sp3) : Prop where
  ex : ∃ (C f : Addr) (fd : FuncData) (g : List Value → List Value → List Value), mg (cn c) = some (.ref C) ∧ Mk K C f ∧ FnOk P w K mg base (L2.CX P w) k f fd ps (liftI K mg c sp) ∧ KBn K fd ps 1 ks g (fun vs zs => vs ++ zs)
section
variable {X : Cx} {G : Gh} {e : Expr} {es : List Expr} {kws : List Keyword} {te : TE3} {tA : TA3} {c k j : Nat} {ps ks : List Str} {sp : Sp3} {E3 : XK3} {E : XK} {p pos : Pos}
theorem liftI_inP (hM : G.M = ⟨X.K, X.mg, G.M.D⟩) {C : Addr} (g : X.mg (cn c) = some (.ref C)) {px Z H : Hp} {σ : L2.St} {s : S3} {Q3 : K3} {Q : VK} {ts : List T} {vs : List V} (f : Fm G px Z H σ s) (r : RpL G.M Z ts vs) (h : sp ts (fun t => Q3 t s) E3)
    (hE : ∀ c fs, E3 c fs → ∀ cls od Z' H', Same Z Z' → Fm G px Z' H' σ s → XrS G px Z' H' σ s c fs cls od → E cls od H') {x dx : Addr} (hx : H x = none) (hdx : H dx = none) (ne : dx ≠ x) (k : ∀ t, Q3 t s → ∀ Z' H', Same Z Z' → Fm G px Z' H' σ s → Pv G px Z' x → NotOw σ s x → Ow G.M (some x) Z' H' t x → Q (.ref x) H') :
    liftI X.K X.mg c sp (.ref x :: vs) (upd (upd H dx (.own x)) x (.ins C dx [])) (fun v H2 => v = .non ∧ Q (.ref x) H2) E := by
  have zx : Z x = none := by
    cases q : Z x with
    | none => rfl
    | some o => rw [f.le x o q] at hx; cases hx
  have zd : Z dx = none := by
    cases q : Z dx with
    | none => rfl
    | some o => rw [f.le dx o q] at hdx; cases hdx
  have ox := f.dr.offN hx
  have od := f.dr.offN hdx
  have sZ : Same Z (upd Z dx (.own x)) := Same.new zd
  have sH : Same H (hid (upd (upd H dx (.own x)) x (.ins C dx [])) x) := fun a o q => by
    rw [hid_ne (ne_of_none q hx), upd_ne (ne_of_none q hx), upd_ne (ne_of_none q hdx)]
    exact q
  have hnw : ∀ a, Z a = none → upd Z dx (.own x) a ≠ none → H a = none := fun a h1 h2 => by
    by_cases ha : a = dx
    · rw [ha]; exact hdx
    · rw [upd_ne ha] at h2; exact absurd h1 h2
  refine ⟨G.M.D, upd Z dx (.own x), ts, _, E3, x, dx, C, vs, rfl, g, upd_same, ⟨fun a o q => ?_, ?_, fun a o q => ?_⟩, by rw [upd_ne ne.symm]; exact zx, upd_same, ox, ?_, ?_, h, fun t ht Z' H' co zx' ow => ⟨rfl, ?_⟩, fun c fs he cls od Z' H' co xr => ?_⟩
  · by_cases ha : a = dx
    · subst ha
      rw [upd_same] at q
      rw [upd_ne ne, upd_same]
      exact q
    · rw [upd_ne ha] at q
      have hq := f.le a o q
      rw [upd_ne (ne_of_none hq hx), upd_ne ha]
      exact hq
  · have tb := f.tb
    rw [hM] at tb
    exact tb.st fun b o q _ => by rw [upd_ne (ne_of_none q hx), upd_ne (ne_of_none q hdx)]; exact q
  · by_cases ha : a = dx
    · subst ha
      rw [upd_same] at q
      cases q
      trivial
    · rw [upd_ne ha] at q
      exact f.zt a o q
  · have d := f.dr
    revert d ox od
    cases G.M.D with
    | none => intro _ _ _; trivial
    | some y =>
      obtain ⟨d1, l1, c1⟩ := y
      intro ox od d
      exact ⟨(d.1.new hdx).off ox, by rw [upd_ne od.1.symm]; exact d.2.1, by rw [upd_ne od.2.1.symm]; exact d.2.2.1, by rw [upd_ne od.2.2.symm]; exact d.2.2.2⟩
  · rw [← hM]
    exact r.mono sZ
  · rw [← hM] at co ow
    have f2 := f.call co sH sZ hnw
    obtain ⟨o, ho⟩ := ow.at
    have hpx : px x = none := by
      cases q : px x with
      | none => rfl
      | some u =>
        rw [(f.px x u q).1] at hx
        cases hx
    have hpv : Pv G px Z' x := ⟨zx', f.kp.back ox.not hx, hpx, ox⟩
    have hno : NotOw σ s x := fun i t e q => by
      obtain ⟨b, h1, h2, h3⟩ := f.ow i t e
      rw [q] at h1
      cases h1
      obtain ⟨w, hw⟩ := h3.at
      rw [hx] at hw
      cases hw
    exact k t ht _ H' (sZ.trans co.z0) f2 hpv hno ow
  · rw [← hM] at co xr
    have f2 := f.call co sH sZ hnw
    obtain ⟨C, x1, x2, x3⟩ := xr
    exact hE c fs he cls od Z' H' (sZ.trans co.z0) f2 (.of f ⟨C, x1, x2, x3.imp (fun q => q) fun ⟨d, vs, y1, y2, y3, y4⟩ => ⟨d, vs, y1, none_of_same (noT_mono sH) y2, y3, y4⟩⟩)
theorem liftI_inX (hM : G.M = ⟨X.K, X.mg, G.M.D⟩) {C : Addr} (g : X.mg (cn c) = some (.ref C)) {px Z H : Hp} {σ : L2.St} {s : S3} {Q3 : K3} {Q : VK} {ts : List T} {vs : List V} (f : Fm G px Z H σ s) (r : RpL G.M Z ts vs) (h : sp ts (fun t => Q3 t s) E3)
    (hE : ∀ c fs, E3 c fs → ∀ cls od Z' H', Same Z Z' → Fm G px Z' H' σ s → XrS G px Z' H' σ s c fs cls od → E cls od H') (k : ∀ t, Q3 t s → ∀ v Z' H', Same Z Z' → Fm G px Z' H' σ s → Rp G.M Z' t v → Q v H') {x dx : Addr} (hx : H x = none) (hdx : H dx = none) (ne : dx ≠ x) :
    liftI X.K X.mg c sp (.ref x :: vs) (upd (upd H dx (.own x)) x (.ins C dx [])) (fun v H2 => v = .non ∧ Q (.ref x) H2) E :=
  liftI_inP hM g f r h hE hx hdx ne fun t ht Z' H' e' f' pv no ow => by
    obtain ⟨o, ho⟩ := ow.at
    exact k t ht _ _ H' (e'.trans (Same.new pv.1)) (f'.freeze pv no ho (ow.nt ho)) (ow.rp (Same.new pv.1) ho upd_same)
theorem liftI_in (hM : G.M = ⟨X.K, X.mg, G.M.D⟩) {C : Addr} (g : X.mg (cn c) = some (.ref C)) {px Z H : Hp} {σ : L2.St} {s : S3} {Q3 : K3} {Q : VK} {ts : List T} {vs : List V} (f : Fm G px Z H σ s) (r : RpL G.M Z ts vs) (h : sp ts (fun t => Q3 t s) E3)
    (hE : ∀ c fs, E3 c fs → ∀ cls od Z' H', Core G Z' H' → Xr G.M G.H0 Z' H' c fs cls od → E cls od H') (k : ∀ t, Q3 t s → ∀ v Z' H', Same Z Z' → Fm G px Z' H' σ s → Rp G.M Z' t v → Q v H') {x dx : Addr} (hx : H x = none) (hdx : H dx = none) (ne : dx ≠ x) :
    liftI X.K X.mg c sp (.ref x :: vs) (upd (upd H dx (.own x)) x (.ins C dx [])) (fun v H2 => v = .non ∧ Q (.ref x) H2) E :=
  liftI_inX hM g f r h (fun c fs he cls od Z' H' _ f' x => hE c fs he cls od Z' H' f'.toCore x.xr) k hx hdx ne
theorem q_mk {x : Str} (hM : G.M = ⟨X.K, X.mg, G.M.D⟩) (M : Mk3 X.prog X.w X.K X.mg X.base c ps k sp) (hx : cn c = x) (hr : Room j X.A) (hj : k + 1 ≤ j) (hg : Gl X x) (L : Lets X G E3 E) (ha : PA X (e :: es) (upA G tA))
    (hdb : (x == ("__debug__" : Str)) = false := by decide) (he : starEach (e :: es) X.env = (false, eval e X.env) :: starEach es X.env := by rfl) (hpl : (backTo pos (starEach es X.env)).any (·.1) = false := by rfl) :
    PE X (.Call (.Name x p) (e :: es) [] pos) (up G (tCal sp E3 tA)) := by
  obtain ⟨C, f, fd, g, mk, F, b⟩ := M.ex
  exact PE.imp (pe_make mk F (hr.mono hj) hg (hx ▸ g) b .nil L.pass ha hdb he hpl) fun σ H Q ⟨px, Z, s, Q3, fm, h, k⟩ => ⟨px, Z, s, _, fm, h, fun ts s1 hs vs Z1 H1 e1 f1 r1 y dy hy hdy ne => by
    rw [List.append_nil]
    exact liftI_in hM g f1 r1 hs L.imp (fun t ht v Z' H' e' f' r' => k t s1 ht v Z' H' (e1.trans e') f' r') hy hdy ne⟩
theorem qk_nil : PK X [] (upA G aNil) := ⟨fun pos pins s σ H Q I ⟨px, Z, s3, Q3, fm, h, k⟩ => pk_nil.run pos pins s σ H Q I (k [] s3 h [] Z H (fun _ _ q => q) fm .nil)⟩
theorem qk_cons {x : Str} {kp : Pos} (ha : PE X e (up G te)) (hr : PK X kws (upA G tA)) : PK X (⟨some x, e, kp⟩ :: kws) (upA G (aCons te tA)) :=
  ⟨fun pos pins s σ H Q I ⟨px, Z, s3, Q3, fm, h, k⟩ => (pk_cons ha hr).run pos pins s σ H Q I ⟨px, Z, s3, _, fm, h, fun x s1 hb1 v Z1 H1 e1 f1 r1 => ⟨px, Z1, s1, _, f1, hb1, fun ts s2 hq vs Z2 H2 e2 f2 r2 => k (x :: ts) s2 hq (v :: vs) Z2 H2 (e1.trans e2) f2 (.cons (r1.mono e2) r2)⟩⟩⟩
def tCalK (n : Nat) (sp : Sp3) (E : XK3) (ta : TA3) : TE3 := fun s Q => ta s fun ts s1 => match lenIs ts n with
  | true => sp ts (fun t => Q t s1) E
  | false => False
theorem q_mkK {x : Str} (hM : G.M = ⟨X.K, X.mg, G.M.D⟩) (M : MkK3 X.prog X.w X.K X.mg X.base c ps ks k sp) (hx : cn c = x) (hr : Room j X.A) (hj : k + 1 ≤ j) (hg : Gl X x) (L : Lets X G E3 E) (hkw : PK X kws (upA G tA))
    (hall : (backToKw pos (keywordEach kws X.env)).all (·.1.isSome) = true := by rfl) (hks : (backToKw pos (keywordEach kws X.env)).filterMap (·.1) = ks := by rfl) (hdb : (x == ("__debug__" : Str)) = false := by decide)
    (hpl : ((backTo pos (starEach [] X.env)).any (·.1) || (backToKw pos (keywordEach kws X.env)).any (·.1.isNone)) = false := by rfl) :
    PE X (.Call (.Name x p) [] kws pos) (up G (tCalK ks.length sp E3 tA)) := by
  obtain ⟨C, f, fd, g', g, mk, F, b⟩ := M.ex
  exact PE.imp (pe_makeK0 (ks := ks) mk F (hr.mono hj) hg (hx ▸ g) b L.pass hkw hall hks hdb hpl) fun σ H Q ⟨px, Z, s, Q3, fm, h, k⟩ => ⟨px, Z, s, _, fm, h, fun ts s1 hs vs Z1 H1 e1 f1 r1 => by
    split at hs
    · rename_i hl
      exact ⟨rfl, by rw [← r1.len]; exact lenIs_eq hl, fun y dy hy hdy ne => liftI_in hM g f1 r1 hs L.imp (fun t ht v Z' H' e' f' r' => k t s1 ht v Z' H' (e1.trans e') f' r') hy hdy ne⟩
    · exact hs.elim⟩
end
end G69
namespace G69
open PySem PySem.Spec PyProof.Rows L2
/-! ### one's own list looked at -/
def peek (s : S3) (i : Nat) : Option T := match s[i]? with
  | some (.sh t) => some t
  | some (.ow t) => some t
  | _ => none
def tLenO (i : Nat) : TE3 := fun s Q => match peek s i with
  | some (.lst ts) => Q (.int ts.length) s
  | _ => False
def tIxO (i : Nat) (te : TE3) : TE3 := fun s Q => match peek s i with
  | some (.lst _) => te s fun y s1 => (match y, peek s1 i with
    | .int k, some (.lst ts) => ∃ t, atI ts k = some t ∧ Q t s1
    | _, _ => False)
  | _ => False
theorem Fm.peekL {G : Gh} {px Z H : Hp} {σ : L2.St} {s : S3} (f : Fm G px Z H σ s) {i : Nat} {ts : List T} (e : peek s i = some (.lst ts)) : ∃ a vs, σ[i]? = some (some (.ref a)) ∧ H a = some (.lst vs) ∧ RpL G.M Z ts vs := by
  unfold peek at e
  split at e
  · rename_i t h
    cases e
    obtain ⟨v, h1, h2⟩ := f.sh i _ h
    cases h2 with
    | lst g n r => exact ⟨_, _, h1, f.le _ _ g, r⟩
  · rename_i t h
    cases e
    obtain ⟨a, vs, h1, h2, _, h4⟩ := f.ownL h
    exact ⟨a, vs, h1, h2, h4⟩
  · cases e
section
variable {X : Cx} {G : Gh} {e : Expr} {te : TE3} {x : Str} {p p1 pos : Pos}
theorem q_lenO (i : Nat) (hK : X.K = G.M.K) (hg : Gl X "len") (hm : X.mg "len" = none) (hN : X.N[i]? = some x := by rfl) (hv : Vis X.env.scope x := by first | exact Or.inl rfl | exact Or.inr (Or.inl rfl) | exact Or.inr (Or.inr rfl)) (hd : (x == ("__debug__" : Str)) = false := by decide)
    (hcd : (x == ("__classdict__" : Str)) = false := by decide) (he : starEach [.Name x p1] X.env = (false, eval (.Name x p1) X.env) :: starEach [] X.env := by rfl) (hpl : (backTo pos (starEach [] X.env)).any (·.1) = false := by rfl) :
    PE X (.Call (.Name "len" p) [.Name x p1] [] pos) (up G (tLenO i)) :=
  PE.imp (pe_callB (l_len hK) hg hm PySem.boot_len (pa_cons (pv i hN hv hd hcd) pa_nil he) (by decide) (by decide) he hpl) fun σ H Q ⟨px, Z, s, Q3, fm, h, k⟩ => by
    unfold tLenO at h
    split at h
    · rename_i ts e
      obtain ⟨a, vs, h1, h2, h3⟩ := fm.peekL e
      exact ⟨_, h1, .inl ⟨a, vs, rfl, .inl (.inl (.inl h2)), by rw [← h3.len]; exact k _ s h _ Z H (fun _ _ q => q) fm (.int _)⟩⟩
    · exact h.elim
theorem q_ixO (i : Nat) (hK : X.K = G.M.K) (he : PE X e (up G te)) (hs : PlainIx e) (hN : X.N[i]? = some x := by rfl) (hv : Vis X.env.scope x := by first | exact Or.inl rfl | exact Or.inr (Or.inl rfl) | exact Or.inr (Or.inr rfl)) (hd : (x == ("__debug__" : Str)) = false := by decide)
    (hcd : (x == ("__classdict__" : Str)) = false := by decide) : PE X (.Subscript (.Name x p1) e pos) (up G (tIxO i te)) :=
  PE.imp (pe_ix (l_ix hK) (pv i hN hv hd hcd) he hs) fun σ H Q ⟨px, Z, s, Q3, fm, h, k⟩ => by
    unfold tIxO at h
    split at h
    · rename_i ts0 e0
      obtain ⟨a, vs, h1, h2, h3⟩ := fm.peekL e0
      refine ⟨_, h1, px, Z, s, _, fm, h, fun y s1 hy v Z1 H1 e1 f1 r1 => ?_⟩
      split at hy
      · rename_i kk ts e2
        obtain ⟨t, ht, hy⟩ := hy
        obtain ⟨a', vs', g1, g2, g3⟩ := f1.peekL e2
        rw [h1] at g1
        cases g1
        cases r1
        obtain ⟨w, w1, w2⟩ := atI_rp g3 ht
        exact .inl ⟨a, vs', kk, w, rfl, rfl, .inl (.inl g2), w1, k t s1 hy w Z1 H1 e1 f1 w2⟩
      · exact hy.elim
    · exact h.elim
end
theorem hKof {G : Gh} {K : PySem.W.Frag} {mg : Str → Option Value} {D : Dw} (h : G.M = ⟨K, mg, D⟩) : K = G.M.K := by rw [h]
/-- what is never asked -/
def tNoE : TE3 := fun _ _ => False
theorem q_noE {X : Cx} {G : Gh} {e : Expr} : PE X e (up G tNoE) := ⟨fun _ _ _ _ _ _ ⟨_, _, _, _, _, h, _⟩ => h.elim⟩
/-! ### xs.index(y) -/
def fIndex (ts : List T) : F1 := fun y P => (flatT y = true ∧ ts.all flatT = true) ∧ (match ts.findIdx? (fun z => eqV z.fv y.fv) with
  | some j => P (.int (j : Nat))
  | none => False)
def tMl (f : List T → F1) (ta tb : TE3) : TE3 := fun s Q => ta s fun x s1 => match x with
  | .lst ts => tb s1 fun y s2 => f ts y fun t => Q t s2
  | _ => False
theorem q_index {X : Cx} {G : Gh} {o e : Expr} {ta tb : TE3} {apos cpos : Pos} (hM : G.M = ⟨X.K, X.mg, G.M.D⟩) (ho : PE X o (up G ta)) (he : PE X e (up G tb))
    (hbase : attributeBase o "index" X.env (eval o X.env) = eval o X.env := by rfl)
    (hfew : ((backTo cpos (starEach [e] X.env)).all (fun x => !x.1) && (backToKw cpos (keywordEach [] X.env)).all (fun x => x.1.isSome) && decide ([e].length + ([] : List Keyword).length + (if ([] : List Keyword).isEmpty then 0 else 1) < 30)) = true := by rfl)
    (hline : (apos.endLine == cpos.line) = true := by rfl) (hs : starEach [e] X.env = (false, eval e X.env) :: starEach [] X.env := by rfl) (hplain : (backTo cpos (starEach [] X.env)).any (·.1) = false := by rfl) :
    PE X (.Call (.Attribute o "index" apos) [e] [] cpos) (up G (tMl fIndex ta tb)) :=
  PE.imp (pe_bm PySem.F.plainAttrs_list PySem.F.slot_list_index PySem.F.type_list_index mt_index ho (pa_cons he pa_nil hs) hbase hfew hline hs hplain) fun σ H Q ⟨px, Z, s, Q3, fm, h, k⟩ => ⟨px, Z, s, _, fm, h, fun x s1 h1 v Z1 H1 e1 f1 r1 => by
    have hK : X.K = G.M.K := by rw [hM]
    rw [hK]
    split at h1
    · rename_i ts
      cases r1 with
      | lst g n r =>
        refine ⟨.inl ⟨rfl, _, .inl (.inl (f1.le _ _ g))⟩, px, Z1, s1, _, f1, h1, fun y s2 hf w Z2 H2 e2 f2 r2 => ?_⟩
        obtain ⟨⟨g1, g2⟩, hf⟩ := hf
        split at hf
        · rename_i j hj
          obtain ⟨rfl, q1⟩ := r2.flat g1
          obtain ⟨rfl, q2⟩ := r.flat g2
          rw [List.findIdx?_eq_some_iff_getElem] at hj
          obtain ⟨hl, j1, j2⟩ := hj
          refine ⟨_, _, _, j, (ts[j]).fv, rfl, rfl, .inl (.inl (f2.le _ _ (e2 _ _ g))), q1, q2, by rw [List.getElem?_map, List.getElem?_eq_getElem hl]; rfl, j1, fun m z hm hz => ?_, k _ s2 hf _ Z2 H2 (e1.trans e2) f2 (.int _)⟩
          rw [List.getElem?_map, List.getElem?_eq_getElem (by omega)] at hz
          have := j2 m hm
          cases hz
          exact Bool.eq_false_iff.mpr this
        · exact hf.elim
    · exact h1.elim⟩
/-! ### text[::-1] -/
def fRev : F1 := fun x P => match x with
  | .str z => P (.str (revS z))
  | _ => False
theorem q_rev {X : Cx} {G : Gh} {e : Expr} {te : TE3} {k : Nat} {p1 p2 p3 pos : Pos} (_ : X.K = G.M.K) (he : PE X e (up G te)) : PE X (.Subscript e (.Slice none none (some (.UnaryOp .USub (.Constant (.int 1) k p1) p2)) p3) pos) (up G (tUn3 fRev te)) :=
  PE.imp (pe_revS he) fun σ H Q ⟨px, Z, s, Q3, fm, h, kx⟩ => ⟨px, Z, s, _, fm, h, fun t s1 hf v Z1 H1 e1 f1 r1 => by
    unfold fRev at hf
    split at hf
    · cases r1 with
      | str hz => exact ⟨_, rfl, hz, kx _ s1 hf _ Z1 H1 e1 f1 (.str (by rw [revS_length]; exact hz))⟩
    · exact hf.elim⟩
/-! ### a, b = two new lists -/
def sPar2 (i j : Nat) (ta tb : TE3) : TS3 := fun D s => ta s fun x s1 => tb s1 fun y s2 => match s2[i]?, s2[j]? with
  | some _, some _ => D.nx ((s2.set i (.ow x)).set j (.ow y))
  | _, _ => False
theorem q_par2 {X : Cx} {G : Gh} {pos : Pos} {i j : Nat} {x y : Str} {e1 e2 : Expr} {ta tb : TE3} {px' py pt : Pos} {kt k2 : Nat} {pt2 : Pos} (hc : X.calm = true) (hN : X.N.Nodup) (hi : X.N[i]? = some x) (hj : X.N[j]? = some y) (hij : i ≠ j)
    (hx : X.env.scope.names.lookup x = some .local) (hy : X.env.scope.names.lookup y = some .local) (ha : PE X e1 (upF G ta)) (hb : PE X e2 (upF G tb))
    (hw : swappedStores [.Tuple [.Name x px', .Name y py] kt pt] (.Tuple [e1, e2] k2 pt2) X.env = pure (some [x, y])) (hs : starEach [e1, e2] X.env = (false, eval e1 X.env) :: starEach [e2] X.env := by rfl) (hs2 : starEach [e2] X.env = (false, eval e2 X.env) :: starEach [] X.env := by rfl) :
    PS X (.Assign [.Tuple [.Name x px', .Name y py] kt pt] (.Tuple [e1, e2] k2 pt2) pos) (upS G (sPar2 i j ta tb)) :=
  PS.imp (ps_par hc hN hi hj hij hx hy (pa_cons ha (pa_cons hb pa_nil hs2) hs) hw) fun D σ H ⟨px, Z, s, D3, fm, h, k⟩ => ⟨px, Z, s, _, fm, h, fun t s1 ht a Z1 H1 e1 f1 hp hn ow => by
    obtain ⟨o, ho⟩ := ow.at
    refine ⟨_, Z1, s1, _, f1.lay hp hn ho (ow.nt ho), ht, fun u s2 hu b Z2 H2 e2 f2 hp2 hn2 ow2 => ⟨_, _, rfl, ?_⟩⟩
    obtain ⟨f3, hp3, hn3, ho3⟩ := f2.unlay hp.2.2.1
    have hab : b ≠ a := fun z => by
      have := hp2.2.2.1
      rw [z, upd_same] at this
      cases this
    have hpb : Pv G px Z2 b := ⟨hp2.1, hp2.2.1, by have := hp2.2.2.1; rw [upd_ne hab] at this; exact this, hp2.2.2.2⟩
    split at hu
    · rename_i w1 w2 g1 g2
      have li : i < s2.length := (List.getElem?_eq_some_iff.mp g1).1
      have lj : j < s2.length := (List.getElem?_eq_some_iff.mp g2).1
      have f4 := f3.setOw li hp3 hn3 (ow.mono e2 fun o' q => by rw [ho] at q; cases q; exact ho3)
      refine k.nx _ hu _ Z2 H2 (e1.trans e2) (f4.setOw (by rw [List.length_set]; exact lj) hpb (fun m t e q => ?_) ow2)
      rcases set_at e with ⟨hm, z⟩ | ⟨hm, e⟩
      · subst hm
        rw [List.getElem?_set_self (by rw [f3.len]; exact li)] at q
        cases q
        exact hab rfl
      · rw [List.getElem?_set_ne (fun z => hm z.symm)] at q
        exact hn2 m t e q
    · exact hu.elim⟩
end G69
namespace G69
open PySem PySem.Spec PyProof.Rows L2
/-! ### str(n), int(text), split -/
def nStr (i : Int) : Str := Str.ofString (toString i)
@[irreducible] def fStr : FN := fun ts P => match ts with
  | [.int i] => (i.natAbs.log2 < 1920 ∧ (nStr i).length ≤ sizeLine) ∧ P (.str (nStr i))
  | _ => False
@[irreducible] def fIntS : FN := fun ts P => match ts with
  | [.int i] => P (.int i)
  | [.bl b] => P (.int (if b then 1 else 0))
  | [.str z] => z.length ≤ 640 ∧ (match PySem.intText? z with
    | some n => P (.int n)
    | none => False)
  | _ => False
@[irreducible] def fSplit (a : Str) : F1 := fun y P => match y with
  | .str b => ((b.length == 0) = false ∧ a.length + 2 ≤ sizeLine ∧ (Txt.split a b).length ≤ sizeLine ∧ ∀ z ∈ Txt.split a b, z.length ≤ sizeLine) ∧ P (.lst ((Txt.split a b).map T.str))
  | _ => False
theorem L_str {M : Mo} : CaL (fun xs H Q => ∃ i, xs = [.int i] ∧ i.natAbs.log2 < 1920 ∧ Q (.str (toString i)) H) M fStr := by
  intro Z H vs ts P Q l r h k
  unfold fStr at h
  split at h
  · cases r with
    | cons r rr =>
      cases rr; cases r
      exact ⟨_, rfl, h.1.1, (k _ h.2).same l (.str h.1.2)⟩
  · exact h.elim
abbrev rIntA : List V → Hp → VK → Prop := fun xs H Q => (∃ i, xs = [.int i] ∧ Q (.int i) H) ∨ ∃ k, xs = [.bl k] ∧ Q (.int (if k then 1 else 0)) H
abbrev rIntB : List V → Hp → VK → Prop := fun xs H Q => ∃ a n, xs = [.str a] ∧ PySem.intText? a = some n ∧ a.length ≤ 640 ∧ Q (.int n) H
theorem l_ints {X : Cx} : CallR X (.type "int") (rOrN rIntA rIntB) := caOr call_int1 call_int_str
theorem L_ints {M : Mo} : CaL (rOrN rIntA rIntB) M fIntS := by
  intro Z H vs ts P Q l r h k
  unfold fIntS at h
  split at h
  · cases r with
    | cons r rr =>
      cases rr; cases r
      exact .inl (.inl ⟨_, rfl, (k _ h).same l (.int _)⟩)
  · cases r with
    | cons r rr =>
      cases rr; cases r
      exact .inl (.inr ⟨_, rfl, (k _ h).same l (.int _)⟩)
  · obtain ⟨h0, h⟩ := h
    split at h
    · rename_i n e
      cases r with
      | cons r rr =>
        cases rr; cases r
        exact .inr ⟨_, n, rfl, e, h0, (k _ h).same l (.int _)⟩
    · exact h.elim
  · exact h.elim
theorem rp_strs {M : Mo} {Z : Hp} : ∀ {ys : List Str}, (∀ z ∈ ys, z.length ≤ sizeLine) → RpL M Z (ys.map T.str) (ys.map V.str)
  | [], _ => .nil
  | y :: ys, h => .cons (.str (h y List.mem_cons_self)) (rp_strs fun z hz => h z (List.mem_cons_of_mem _ hz))
section
variable {X : Cx} {G : Gh} {o e : Expr} {ta tb : TE3} {apos cpos pos : Pos}
theorem q_split (hM : G.M = ⟨X.K, X.mg, G.M.D⟩) (ho : PE X o (up G ta)) (he : PE X e (up G tb))
    (hbase : attributeBase o "split" X.env (eval o X.env) = eval o X.env := by rfl)
    (hfew : ((backTo cpos (starEach [e] X.env)).all (fun x => !x.1) && (backToKw cpos (keywordEach [] X.env)).all (fun x => x.1.isSome) && decide ([e].length + ([] : List Keyword).length + (if ([] : List Keyword).isEmpty then 0 else 1) < 30)) = true := by rfl)
    (hline : (apos.endLine == cpos.line) = true := by rfl) (hs : starEach [e] X.env = (false, eval e X.env) :: starEach [] X.env := by rfl) (hplain : (backTo cpos (starEach [] X.env)).any (·.1) = false := by rfl) :
    PE X (.Call (.Attribute o "split" apos) [e] [] cpos) (up G (tMs fSplit ta tb)) :=
  PE.imp (pe_bm PySem.F.plainAttrs_str PySem.F.slot_str_split PySem.F.type_str_split mt_split ho (pa_cons he pa_nil hs) hbase hfew hline hs hplain) fun σ H Q ⟨px, Z, s, Q3, fm, h, k⟩ => ⟨px, Z, s, _, fm, h, fun x s1 h1 v Z1 H1 e1 f1 r1 => by
    split at h1
    · cases r1
      refine ⟨rfl, px, Z1, s1, _, f1, h1, fun y s2 hf w Z2 H2 e2 f2 r2 => ?_⟩
      unfold fSplit at hf
      split at hf
      · cases r2
        obtain ⟨⟨g1, g2, g3, g4⟩, hf⟩ := hf
        refine ⟨_, _, rfl, rfl, g1, g2, fun p np => ?_⟩
        obtain ⟨e3, f3⟩ := f2.new (o := .lst ((Txt.split _ _).map V.str)) np
        exact k _ s2 hf _ _ _ (e1.trans (e2.trans e3)) f3 (.lst upd_same (by rw [List.length_map]; exact g3) (rp_strs g4))
      · exact hf.elim
    · exact h1.elim⟩
end
/-! ### own == -/
/-- what isinstance and == ask of an own class -/
structure OwnC (K : PySem.W.Frag) (C : Addr) : Prop where
  ha : PySem.W.findIn K (.ref C) "__class__" = some (some (.builtin "object.__class__"))
  hn : PySem.W.specialIn K (.builtin "object.__class__") "__get__" = some (some (.builtin "getset_descriptor.__get__"))
  htk : PySem.W.takesIn K (.builtin "object.__class__") = some true
  hm : PySem.W.mroIn K C (.type "object") = some true
  ne : PySem.W.findIn K (.ref C) "__ne__" = some (some (.builtin "object.__ne__"))
theorem OwnC.ty {K : PySem.W.Frag} {C a dx : Addr} {H : Hp} {fs : List (Str × V)} (o : OwnC K C) (cl : Cls K C) (h : H a = some (.ins C dx fs)) : TyX K H (.ref a) (.ref C) := .base (.ins h cl o.ha o.hn o.htk o.hm)
theorem nf_self {K : PySem.W.Frag} {C : Addr} : PySem.W.notFirst K C (.ref C) = true := by
  show ((Value.ref C == Value.ref C) || _) = true
  rw [beq_self_eq_true, Bool.true_or]
theorem kit_self {K : PySem.W.Frag} {C : Addr} : PySem.W.kitOne K (.ref C) (.ref C) = some true := if_pos (beq_self_eq_true _)
structure Oc (K : PySem.W.Frag) (mg : Str → Option Value) (c : Nat) : Prop where
  ow : ∀ C, mg (cn c) = some (.ref C) → OwnC K C
def fEqO (c : Nat) (sp : Sp3) (neg : Bool) : F2 := fun x y P => match x, y with
  | .ins c1 ts, .ins c2 us => (match Nat.beq c c1 && Nat.beq c c2 with
    | true => sp [.ins c1 ts, .ins c2 us] (fun r => match r with
      | .bl b => P (.bl (xor neg b))
      | _ => False) E03
    | false => False)
  | _, _ => False
/-- isinstance(x, C) of an instance -/
def fIsO (c : Nat) : F1 := fun x P => match x with
  | .ins c1 _ => (match Nat.beq c c1 with
    | true => P (.bl true)
    | false => False)
  | _ => False
section
variable {X : Cx} {G : Gh} {a b : Expr} {ta tb : TE3} {c k j : Nat} {ps : List Str} {sp : Sp3} {pos p p2 : Pos}
theorem lift_res {M : Mo} {K : PySem.W.Frag} {mg : Str → Option Value} (hM : M = ⟨K, mg, M.D⟩) {Z H : Hp} {Q : VK} {ts : List T} {vs : List V} {P : T → Prop} (l : Sz K mg Z H) (d : DrOk M.D H Z) (r : RpL M Z ts vs) (h : sp ts P E03)
    (k : ∀ t, P t → ∀ v Z' H', Core ⟨M, noT H, Z, none⟩ Z' H' → Rp M Z' t v → Q v H') : lift K mg sp vs H Q E0 :=
  ⟨M.D, Z, ts, P, E03, l, d, hM ▸ r, h, fun t ht v Z' H' c rr => k t ht v Z' H' (by rw [← hM] at c; exact c) (by rw [← hM] at rr; exact rr), fun _ _ h => h.elim⟩
def tEqO (c : Nat) (sp : Sp3) (neg : Bool) (ta tb : TE3) : TE3 := fun s Q => ta s fun x s1 => tb s1 fun y s2 => fEqO c sp neg x y fun t => Q t s2
theorem up_eqO (hM : G.M = ⟨X.K, X.mg, G.M.D⟩) (O : Oc X.K X.mg c) (F : Cf X.K X.mg c) {C : Addr} (g : X.mg (cn c) = some (.ref C)) {neg : Bool} {σ : L2.St} {H : Hp} {Q : VK} (h : up G (tEqO c sp neg ta tb) σ H Q) :
    tOp (fun x y H Q => ∃ a dx fs t, x = .ref a ∧ H a = some (.ins C dx fs) ∧ TyX X.K H y t ∧ PySem.W.notFirst X.K C t = true ∧ lift X.K X.mg sp [.ref a, y] H (fun v H' => ∃ r, v = .bl r ∧ Q (.bl (xor neg r)) H') E0) (up G ta) (up G tb) σ H Q := by
  obtain ⟨px, Z, s, Q3, fm, h, k⟩ := h
  refine ⟨px, Z, s, _, fm, h, fun x s1 hb1 v Z1 H1 e1 f1 r1 => ⟨px, Z1, s1, _, f1, hb1, fun y s2 hf w Z2 H2 e2 f2 r2 => ?_⟩⟩
  unfold fEqO at hf
  split at hf
  · split at hf
    · rename_i hb
      rw [Bool.and_eq_true] at hb
      have ec1 := Nat.eq_of_beq_eq_true hb.1
      have ec2 := Nat.eq_of_beq_eq_true hb.2
      subst ec1
      subst ec2
      have r1' := r1.mono e2
      have rr : RpL G.M Z2 _ [v, w] := .cons r1' (.cons r2 .nil)
      cases r1' with
      | ins g1 g2 g3 q1 =>
        cases r2 with
        | ins g1' g2' g3' q1' =>
          rw [hM] at g1 g1'
          have eC := cfSame g g1
          have eC' := cfSame g g1'
          subst eC
          subst eC'
          refine ⟨_, _, _, .ref C, rfl, f2.le _ _ g2, (O.ow C g).ty (F.cl C g) (f2.le _ _ g2'), nf_self, ?_⟩
          refine lift_res hM (f2.toCore.sz hM) f2.dr rr hf fun t ht u Z3 H3 co r3 => ?_
          split at ht
          · cases r3
            exact ⟨_, rfl, k _ s2 ht _ Z3 H3 (e1.trans (e2.trans co.z0)) (f2.call co (fun _ _ q => q) (fun _ _ q => q) fun a h1 h2 => absurd h1 h2) (.bl _)⟩
          · exact ht.elim
    · exact hf.elim
  · exact hf.elim
theorem false_xor' (b : Bool) : xor false b = b := by cases b <;> rfl
theorem true_xor' (b : Bool) : xor true b = !b := by cases b <;> rfl
theorem q_eqO (hM : G.M = ⟨X.K, X.mg, G.M.D⟩) (O : Oc X.K X.mg c) (M : Mt3 X.prog X.w X.K X.mg X.base c "__eq__" ps k sp) (hr : Room j X.A) (hj : k + 1 ≤ j) (ha : PE X a (up G ta)) (hb : PE X b (up G tb)) (hm : behindInMarks .Eq b = false) :
    PE X (.Compare a [.Eq] [b] pos) (up G (tEqO c sp false ta tb)) := by
  obtain ⟨C, f, fd, g, F, hm', hbd, hf⟩ := M.ex
  refine PE.imp (pe_cmpR (op_eqO (C := C) (sp := fun vs H Q _ => lift X.K X.mg sp vs H Q E0) ⟨f, fd, FnOk.to0 F, hm', hbd, hf⟩ hr hj) ha hb hm) fun σ H Q h => ?_
  have := up_eqO hM O M.cf g h
  simp only [false_xor'] at this
  exact this
theorem q_neO (hM : G.M = ⟨X.K, X.mg, G.M.D⟩) (O : Oc X.K X.mg c) (M : Mt3 X.prog X.w X.K X.mg X.base c "__eq__" ps k sp) (hr : Room j X.A) (hj : k + 1 ≤ j) (ha : PE X a (up G ta)) (hb : PE X b (up G tb)) (hm : behindInMarks .NotEq b = false) :
    PE X (.Compare a [.NotEq] [b] pos) (up G (tEqO c sp true ta tb)) := by
  obtain ⟨C, f, fd, g, F, hm', hbd, hf⟩ := M.ex
  refine PE.imp (pe_cmpR (op_neO (C := C) (sp := fun vs H Q _ => lift X.K X.mg sp vs H Q E0) ⟨f, fd, FnOk.to0 F, hm', hbd, hf⟩ (O.ow C g).ne (O.ow C g).hm hr hj) ha hb hm) fun σ H Q h => ?_
  have := up_eqO hM O M.cf g h
  simp only [true_xor'] at this
  exact this
theorem q_teqO (hM : G.M = ⟨X.K, X.mg, G.M.D⟩) (O : Oc X.K X.mg c) (M : Mt3 X.prog X.w X.K X.mg X.base c "__eq__" ps k sp) (hr : Room j X.A) (hj : k + 1 ≤ j) (ha : PE X a (up G ta)) (hb : PE X b (up G tb)) (hm : behindInMarks .Eq b = false) :
    PT X (.Compare a [.Eq] [b] pos) (upT G (tBl (tEqO c sp false ta tb))) := by
  obtain ⟨C, f, fd, g, F, hm', hbd, hf⟩ := M.ex
  refine PT.imp (pt_cmpR (op_eqO (C := C) (sp := fun vs H Q _ => lift X.K X.mg sp vs H Q E0) ⟨f, fd, FnOk.to0 F, hm', hbd, hf⟩ hr hj) ha hb hm) fun σ H Q h => ?_
  have := up_eqO hM O M.cf g (up_bl h)
  simp only [false_xor'] at this
  exact this
theorem q_tneO (hM : G.M = ⟨X.K, X.mg, G.M.D⟩) (O : Oc X.K X.mg c) (M : Mt3 X.prog X.w X.K X.mg X.base c "__eq__" ps k sp) (hr : Room j X.A) (hj : k + 1 ≤ j) (ha : PE X a (up G ta)) (hb : PE X b (up G tb)) (hm : behindInMarks .NotEq b = false) :
    PT X (.Compare a [.NotEq] [b] pos) (upT G (tBl (tEqO c sp true ta tb))) := by
  obtain ⟨C, f, fd, g, F, hm', hbd, hf⟩ := M.ex
  refine PT.imp (pt_cmpR (op_neO (C := C) (sp := fun vs H Q _ => lift X.K X.mg sp vs H Q E0) ⟨f, fd, FnOk.to0 F, hm', hbd, hf⟩ (O.ow C g).ne (O.ow C g).hm hr hj) ha hb hm) fun σ H Q h => ?_
  have := up_eqO hM O M.cf g (up_bl h)
  simp only [true_xor'] at this
  exact this
theorem q_isO {x : Str} (hM : G.M = ⟨X.K, X.mg, G.M.D⟩) (O : Oc X.K X.mg c) (F : Cf X.K X.mg c) (hx : cn c = x) (hg : Gl X "isinstance") (hm : X.mg "isinstance" = none) (hgx : Gl X x) (he : PE X a (up G ta))
    (hst : starEach [a, .Name x p2] X.env = (false, eval a X.env) :: starEach [.Name x p2] X.env := by rfl) (hst2 : starEach [.Name x p2] X.env = (false, eval (.Name x p2) X.env) :: starEach [] X.env := by rfl) (hpl : (backTo pos (starEach [.Name x p2] X.env)).any (·.1) = false := by rfl) (hd : (x == ("__debug__" : Str)) = false := by decide) :
    PE X (.Call (.Name "isinstance" p) [a, .Name x p2] [] pos) (up G (tUn3 (fIsO c) ta)) := by
  obtain ⟨C, g⟩ := F.ex
  refine PE.imp (pe_callB call_isi hg hm (by decide +kernel) (pa_cons he (pa_cons (pe_glob (v := .ref C) hgx (hx ▸ g) rfl hd) pa_nil hst2) hst) (by decide) (by decide) hst hpl) fun σ H Q ⟨px, Z, s, Q3, fm, h, kx⟩ => ⟨px, Z, s, _, fm, h, fun t s1 hf v Z1 H1 e1 f1 r1 => ?_⟩
  unfold fIsO at hf
  split at hf
  · split at hf
    · rename_i hb
      have ec := Nat.eq_of_beq_eq_true hb
      subst ec
      cases r1 with
      | ins g1 g2 g3 q1 =>
        rw [hM] at g1
        have eC := cfSame g g1
        subst eC
        exact ⟨_, _, .ref C, _, true, rfl, .own C, (O.ow C g).ty (F.cl C g) (f1.le _ _ g2), kit_self, kx _ s1 hf _ Z1 H1 e1 f1 (.bl _)⟩
    · exact hf.elim
  · exact hf.elim
end
/-! ### f(k = v) -/
theorem q_kcal {X : Cx} {G : Gh} {x : Str} {ks : List Str} {k j : Nat} {sp : Sp3} {kws : List Keyword} {tA : TA3} {p pos : Pos} (C : Cal3 X.prog X.w X.K X.mg X.base x ks k sp) (hM : G.M = ⟨X.K, X.mg, G.M.D⟩) (hr : Room j X.A) (hj : k ≤ j) (hg : Gl X x) (hkw : PK X kws (upA G tA))
    (hall : (backToKw pos (keywordEach kws X.env)).all (·.1.isSome) = true := by rfl) (hks : (backToKw pos (keywordEach kws X.env)).filterMap (·.1) = ks := by rfl) (hdb : (x == ("__debug__" : Str)) = false := by decide)
    (hpl : ((backTo pos (starEach [] X.env)).any (·.1) || (backToKw pos (keywordEach kws X.env)).any (·.1.isNone)) = false := by rfl) :
    PE X (.Call (.Name x p) [] kws pos) (up G (tCalK ks.length sp E03 tA)) := by
  obtain ⟨f, fd, F, hm, kp, _, kb, _⟩ := C.ex
  refine PE.imp (pe_kcal (gV := fun zs => zs) (sp := fun vs H Q _ => lift X.K X.mg sp vs H Q E0) ⟨f, fd, ks, _, FnOk.to0 F, hm, kp, kb⟩ hr hj hg hkw hall hks hdb hpl) fun σ H Q ⟨px, Z, s, Q3, fm, h, k⟩ => ⟨px, Z, s, _, fm, h, fun ts s1 hs vs Z1 H1 e1 f1 r1 => ?_⟩
  split at hs
  · rename_i hl
    exact ⟨rfl, by rw [← r1.len]; exact lenIs_eq hl, lift_in hM f1 r1 hs (fun _ _ h => h.elim) fun t ht v Z' H' e' f' r' => k t s1 ht v Z' H' (e1.trans e') f' r'⟩
  · exact hs.elim
end G69
namespace G69
open PySem PySem.Spec PyProof.Rows L2
/-! ### the law itself -/
def spLaw (K : PySem.W.Frag) : Sp := fun vs H Q _ => ∃ (a : Addr) (ns : List Int), vs = [.ref a] ∧ SqL K H a (ns.map V.int) ∧ ns.length ≤ 63 ∧ ∀ H', Q (.bl true) H'
def lawS (n N : Nat) : S3 := (start3 N [.scr n]).set 1 (.sh .drw)
def lawD : Ends3 := { nx := fun _ => False, rt := fun t => t = .bl true }
section
variable {P : Program} {w : World} {K : PySem.W.Frag} {mg : Str → Option Value} {base : Heap}
theorem law3 {st st0 : Stmt} {rest : List Stmt} {f : Addr} {fd : FuncData} {N : List Str} {k : Nat} {W : XK3 → TS3} (F : Fun K "law" "law" st f fd) (S : FnScope N ["_law_script"] (defScope st)) (hbody : defBody st = st0 :: rest) (hN : 1 < N.length)
    (h0 : ∀ (cdv : Value) (A : Around) (outer : List Env) (s : Shared) (H : Hp) (E : XK), Room k (A.deeper (envOfC "law" (defScope st) s.heap.objs.size f cdv)) →
      PS (cxOf (L2.CX P w) P w K mg base N "law" (defScope st) f cdv A outer s H E) st0 (tAsg (tCall (spBegin K) [] E0 (tCons (tVar 0) tNil)) (gName 1)))
    (hb : ∀ (cdv : Value) (A : Around) (outer : List Env) (s : Shared) (H : Hp) (E : XK) (G : Gh) (E3 : XK3), Room k (A.deeper (envOfC "law" (defScope st) s.heap.objs.size f cdv)) → (G.M = ⟨K, mg, G.M.D⟩ ∧ G.q = none) →
      Lets (cxOf (L2.CX P w) P w K mg base N "law" (defScope st) f cdv A outer s H E) G E3 E → PSs (cxOf (L2.CX P w) P w K mg base N "law" (defScope st) f cdv A outer s H E) rest (upS G (W E3)))
    (hT : ∀ H : Hp, TbOk K mg H) (hW : ∀ n ≤ 63, W E03 lawD (lawS n N.length)) : FnOk P w K mg base CX0 (k + 1) f fd ["_law_script"] (spLaw K) := by
  refine FnOk.to0 (sp := spLaw K) (F.okX S (fun vs H Q E h => ?_) (fun cdv A outer s H vs Q E hr h => ?_))
  · obtain ⟨a, ns, rfl, _⟩ := h
    rfl
  · obtain ⟨a, ns, rfl, hS, hlen, q⟩ := h
    have L : ∀ G : Gh, Lets (cxOf (L2.CX P w) P w K mg base N "law" (defScope st) f cdv A outer s H E) G E03 E := fun G => ⟨passes_call (takes_of rfl rfl rfl rfl) fun _ _ _ _ h => h, fun _ _ h => h.elim, takes_of rfl rfl rfl rfl⟩
    rw [hbody]
    refine ⟨_, pss_cons (h0 cdv A outer s H E hr) (u := fun D σ H1 => ∃ G : Gh, (G.M = ⟨K, mg, G.M.D⟩ ∧ G.q = none) ∧ upS G (W E03) D σ H1) ⟨fun pins s' σ H1 D I ⟨G, hG, h⟩ => (hb cdv A outer s H E G E03 hr hG (L G)).run pins s' σ H1 D I h⟩, ?_⟩
    refine ⟨.ref a, rfl, a, ns, rfl, hS, hlen, fun d l c H1 hd hl hc D1 k1 => ?_⟩
    let Z : Hp := fun b => if b = a then noT H b else none
    have zle : Same Z H1 := fun b o e => by
      by_cases hb : b = a
      · have e : (if b = a then noT H b else none) = some o := e
        rw [if_pos hb] at e
        exact k1 b o (noT_some e).1 notnil
      · have e : (if b = a then noT H b else none) = some o := e
        rw [if_neg hb] at e
        cases e
    have zn : ∀ x, H x = none → Z x = none := fun x hx => by
      show (if x = a then noT H x else none) = none
      split
      · exact noT_none hx
      · rfl
    have za : Z a = noT H a := if_pos rfl
    have zt : ∀ b o, Z b = some o → NT o := fun b o e => by
      have e : (if b = a then noT H b else none) = some o := e
      split at e
      · exact (noT_some e).2
      · cases e
    have hSZ : SqL K Z a (ns.map V.int) := by
      rcases hS with (h | ⟨o, h⟩) | h
      · exact .inl (.inl (za.trans (noT_of h trivial)))
      · exact .inl (.inr ⟨o, za.trans (noT_of h trivial)⟩)
      · exact .inr h
    have hlen2 : (ns.map V.int).length = ns.length := List.length_map ..
    have fm := fm_start (M := ⟨K, mg, some (d, l, c)⟩) (ts := [.scr (ns.map V.int).length]) (vs := [.ref a]) N ⟨zle, TbOk.st (hT H) fun b o e _ => k1 b o e notnil, zt⟩ ⟨D1, zn d hd, zn l hl, zn c hc⟩ (.cons (.scr hSZ) .nil)
    have fm2 := fm.setSh (i := 1) (by rw [← fm.len]; unfold L2.start; rw [List.length_append, List.length_map, List.length_replicate]; simp only [List.length_cons, List.length_nil]; omega) (Rp.drw (M := ⟨K, mg, some (d, l, c)⟩) rfl)
    rw [hlen2] at fm2
    refine ⟨⟨⟨K, mg, some (d, l, c)⟩, noT H1, Z, none⟩, ⟨rfl, rfl⟩, _, Z, _, lawD, fm2, hW ns.length hlen, ⟨fun _ h => h.elim, fun t ht v Z' H' e c r => ?_, fun _ h => h.elim, fun _ h => h.elim, fun _ _ h => h.elim⟩⟩
    have ht : t = .bl true := ht
    subst ht
    cases r
    exact q H'
end
end G69
namespace G69
open PySem PySem.Spec PyProof.Rows L2
/-! ### raise -/
abbrev veT : List Value := [.type "ValueError", .type "Exception", .type "BaseException", .type "object"]
structure XcI (P : Program) (K : PySem.W.Frag) (mg : Str → Option Value) (c : Nat) (f : Str) : Prop where
  ex : ∃ (C fI : Addr) (fd : FuncData), mg (en c) = some (.ref C) ∧ OexC K C ∧ PySem.W.findIn K (.ref C) "__init__" = some (some (.ref fI)) ∧ PySem.W.typeIn K (.ref fI) = some (.type "function") ∧ Binds K fd ["self", f] [] ∧ XfC K C ∧ PySem.W.findIn K (.ref C) f = some none ∧ KBn K fd ["self", f] 1 [f] (fun us ws => us ++ ws) (fun vs zs => vs ++ zs) ∧
    ∀ w base, FnOk P w K mg base (L2.CX P w) 1 fI fd ["self", f] (spXI C f)
structure Xc0 (K : PySem.W.Frag) (mg : Str → Option Value) (c : Nat) : Prop where
  ex : ∃ C : Addr, mg (en c) = some (.ref C) ∧ PySem.W.excIn K C veT "ValueError.__new__" = true ∧ PySem.W.keepIn K (.ref C) = true ∧ PySem.W.subIn K (.ref C) (.type "BaseException") = some true ∧ PySem.W.typeIn K (.ref C) = some (.type "type")
def sRz (c : Nat) (E : XK3) (te : TE3) : TS3 := fun _ s => te s fun t _ => E c [t]
def sRz0 (c : Nat) (E : XK3) : TS3 := fun _ _ => E c []
section
variable {X : Cx} {G : Gh} {e : Expr} {te : TE3} {c j : Nat} {f x : Str} {E3 : XK3} {E : XK} {p p2 pos pos' : Pos}
theorem q_rz (hM : G.M = ⟨X.K, X.mg, G.M.D⟩) (T : XcI X.prog X.K X.mg c f) (hx : en c = x) (hf : ef c = [f]) (hr : Room j X.A) (hj : 2 ≤ j) (hc : X.calm = true) (hg : Gl X x) (L : Lets X G E3 E) (he : PE X e (up G te)) (hdb : (x == ("__debug__" : Str)) = false := by decide)
    (hs : starEach [e] X.env = (false, eval e X.env) :: starEach [] X.env := by rfl) (hpl : (backTo pos (starEach [] X.env)).any (·.1) = false := by rfl) : PS X (.Raise (some (.Call (.Name x p) [e] [] pos)) none pos') (upS G (sRz c E3 te)) := by
  obtain ⟨C, fI, fd, gC, O, iC, tI, hb, _, _, _, F⟩ := T.ex
  refine PS.imp (ps_raise hc L.tk (pmk_oex (dvs := []) O iC tI (F X.w X.base) (hr.mono hj) hb .nil passL hg (hx ▸ gC) (pa_cons he pa_nil hs) hdb hs hpl)) fun D σ H ⟨px, Z, s, D3, fm, h, k⟩ => ?_
  refine ⟨px, Z, s, _, fm, h, fun t s1 ht v Z1 H1 e1 f1 r1 => ⟨by show 1 ≤ 1000; decide, fun a na => ⟨a, v, rfl, upd_same, fun dx ndx ne => ⟨rfl, dx, [(f, v)], upd_same, by rw [upd_ne ne, upd_same], ?_, ?_⟩⟩⟩⟩
  · rw [upd_ne ne] at ndx
    exact ndx
  · rw [upd_ne ne] at ndx
    have eH : upd (L2.del (upd (upd (upd H1 a (exo a C none)) dx (exd dx [(f, v)])) a (exo a C (some dx))) a) dx (.xd [(f, v)]) = upd H1 dx (.xd [(f, v)]) := by
      funext b
      by_cases hb : b = dx
      · rw [hb, upd_same, upd_same]
      · rw [upd_ne hb, upd_ne hb]
        by_cases ha : b = a
        · rw [ha, del_same, na]
        · rw [del_ne ha, upd_ne ha, upd_ne hb, upd_ne ha]
    rw [eH]
    refine L.imp c [t] ht _ _ Z1 _ (f1.toCore.grow (Gw.mute f1.le ndx)) ⟨C, by rw [hM]; exact gC, rfl, .inr ⟨dx, [v], rfl, f1.kp.back (f1.dr.offN ndx).not ndx, ?_, .cons r1 .nil⟩⟩
    rw [upd_same, hf]
    rfl
theorem q_rz0 {m : Str} {i : Nat} (hM : G.M = ⟨X.K, X.mg, G.M.D⟩) (T : Xc0 X.K X.mg c) (hx : en c = x) (hf : ef c = []) (hc : X.calm = true) (hg : Gl X x) (L : Lets X G E3 E) (hdb : (x == ("__debug__" : Str)) = false := by decide) :
    PS X (.Raise (some (.Call (.Name x p) [.Constant (.str m) i p2] [] pos)) none pos') (upS G (sRz0 c E3)) := by
  obtain ⟨C, gC, q, kC, h1, h2⟩ := T.ex
  exact PS.imp (ps_raise hc L.tk (pmk_own PySem.F.excBase_ValueError q (hx ▸ gC) kC (raises_own h1 h2) hg hdb)) fun D σ H ⟨px, Z, s, D3, fm, h, k⟩ =>
    L.imp c [] h _ _ Z H fm.toCore ⟨C, by rw [hM]; exact gC, rfl, .inl ⟨hf, rfl⟩⟩
end
/-! ### what may raise, within a try -/
abbrev XS3 := S3 → XK3
abbrev TX3 := S3 → K3 → XS3 → Prop
abbrev TAX3 := S3 → (List T → S3 → Prop) → XS3 → Prop
abbrev TSX3 := Ends3 → S3 → XS3 → Prop
def OutX (G : Gh) (W : WX) (px Z : Hp) (E3 : XS3) : Prop := ∀ s' c fs, E3 s' c fs → ∀ cls od σ' Z' H', Same Z Z' → Fm G px Z' H' σ' s' → XrS G px Z' H' σ' s' c fs cls od → W cls od σ' H'
theorem OutX.mono {G : Gh} {W : WX} {px Z Z' : Hp} {E3 : XS3} (h : OutX G W px Z E3) (e : Same Z Z') : OutX G W px Z' E3 := fun s c fs q cls od σ Z2 H2 e2 => h s c fs q cls od σ Z2 H2 (e.trans e2)
def upX (G : Gh) (W : WX) (tx : TX3) : TE := fun σ H Q => ∃ px Z s Q3 E3, Fm G px Z H σ s ∧ tx s Q3 E3 ∧ (∀ t s', Q3 t s' → ∀ v Z' H', Same Z Z' → Fm G px Z' H' σ s' → Rp G.M Z' t v → Q v H') ∧ OutX G W px Z E3
def upAX (G : Gh) (W : WX) (ta : TAX3) : TA := fun σ H Q => ∃ px Z s Q3 E3, Fm G px Z H σ s ∧ ta s Q3 E3 ∧ (∀ ts s', Q3 ts s' → ∀ vs Z' H', Same Z Z' → Fm G px Z' H' σ s' → RpL G.M Z' ts vs → Q vs H') ∧ OutX G W px Z E3
def upSX (G : Gh) (W : WX) (b : TSX3) : TS := fun D σ H => ∃ px Z s D3 E3, Fm G px Z H σ s ∧ b D3 s E3 ∧ EndsOk G px Z D3 D ∧ OutX G W px Z E3
def xPu (te : TE3) : TX3 := fun s Q _ => te s Q
def xCal (sp : Sp3) (ta : TA3) : TX3 := fun s Q E => ta s fun ts s1 => sp ts (fun t => Q t s1) (E s1)
def axN : TAX3 := fun s Q _ => Q [] s
def axC (tx : TX3) (ta : TAX3) : TAX3 := fun s Q E => tx s (fun t s1 => ta s1 (fun ts s2 => Q (t :: ts) s2) E) E
def xTup (ta : TAX3) : TX3 := fun s Q E => ta s (fun ts s1 => mkTup ts fun u => Q u s1) E
def bExp (tx : TX3) : TSX3 := fun D s E => tx s (fun _ s1 => D.nx s1) E
def bSet (i : Nat) (tx : TX3) : TSX3 := fun D s E => tx s (fun t s1 => gN i t s1 D.nx) E
section
variable {X : Cx} {G : Gh} {W : WX} {e : Expr} {es : List Expr} {te : TE3} {tx : TX3} {tA : TA3} {ta : TAX3} {x : Str} {ps : List Str} {k j : Nat} {sp : Sp3} {p pos pos' : Pos}
theorem qx_pu (h : PE X e (up G te)) : PE X e (upX G W (xPu te)) := PE.imp h fun σ H Q ⟨px, Z, s, Q3, E3, fm, h, k, _⟩ => ⟨px, Z, s, Q3, fm, h, k⟩
theorem qx_cal (C : Cal3 X.prog X.w X.K X.mg X.base x ps k sp) (hM : G.M = ⟨X.K, X.mg, G.M.D⟩) (hr : Room j X.A) (hj : k ≤ j) (hg : Gl X x) (tk : Takes X W) (ha : PA X (e :: es) (upA G tA))
    (hdb : (x == ("__debug__" : Str)) = false := by decide) (he : starEach (e :: es) X.env = (false, eval e X.env) :: starEach es X.env := by rfl) (hpl : (backTo pos (starEach es X.env)).any (·.1) = false := by rfl) :
    PE X (.Call (.Name x p) (e :: es) [] pos) (upX G W (xCal sp tA)) := by
  obtain ⟨f, fd, F, g, kp, b, _⟩ := C.ex
  exact PE.imp (pe_callSD (dvs := []) (E := WE W) F (hr.mono hj) hg g kp b .nil (fun σ => passAt tk σ) ha hdb he hpl) fun σ H Q ⟨px, Z, s, Q3, E3, fm, h, k, ox⟩ => ⟨px, Z, s, _, fm, h, fun ts s1 hs vs Z1 H1 e1 f1 r1 => by
    show lift X.K X.mg sp (vs ++ []) H1 Q (WE W σ)
    rw [List.append_nil]
    exact lift_inX hM f1 r1 hs (fun c fs he cls od Z' H' e' f' xr => ox s1 c fs he cls od σ Z' H' (e1.trans e') f' xr) fun t ht v Z' H' e' f' r' => k t s1 ht v Z' H' (e1.trans e') f' r'⟩
theorem qx_nil : PA X [] (upAX G W axN) := PA.imp pa_nil fun σ H Q ⟨px, Z, s, Q3, E3, fm, h, k, _⟩ => k [] s h [] Z H (fun _ _ q => q) fm .nil
theorem qx_cons (ha : PE X e (upX G W tx)) (hr : PA X es (upAX G W ta)) (hs : starEach (e :: es) X.env = (false, eval e X.env) :: starEach es X.env := by rfl) : PA X (e :: es) (upAX G W (axC tx ta)) :=
  PA.imp (pa_cons ha hr hs) fun σ H Q ⟨px, Z, s, Q3, E3, fm, h, k, ox⟩ => ⟨px, Z, s, _, E3, fm, h, fun x s1 hb1 v Z1 H1 e1 f1 r1 => ⟨px, Z1, s1, _, E3, f1, hb1, fun ts s2 hq vs Z2 H2 e2 f2 r2 => k (x :: ts) s2 hq (v :: vs) Z2 H2 (e1.trans e2) f2 (.cons (r1.mono e2) r2), ox.mono e1⟩, ox⟩
theorem qx_tup {x1 : Nat} (h : PA X es (upAX G W ta)) : PE X (.Tuple es x1 pos) (upX G W (xTup ta)) :=
  PE.imp (pe_tup h) fun σ H Q ⟨px, Z, s, Q3, E3, fm, h, k, ox⟩ => ⟨px, Z, s, _, E3, fm, h, fun ts s1 hf vs Z1 H1 e1 f1 r1 => by
    obtain ⟨hlen, hf⟩ := mkTup.out hf
    refine ⟨by rw [← r1.len]; exact hlen, fun p np => ?_⟩
    obtain ⟨e2, f2⟩ := f1.new (o := .tup vs) np
    exact k (.tup ts) s1 hf (.ref p) _ _ (e1.trans e2) f2 (.tup upd_same hlen (r1.mono e2)), ox⟩
theorem qb_exp (he : PE X e (upX G W tx)) (hs : swapsWith e none pos.line X.env = pure false := by rfl) : PSs X [.Expr e pos] (upSX G W (bExp tx)) :=
  PSs.imp (pss_one (ps_expr he hs)) fun D σ H ⟨px, Z, s, D3, E3, fm, h, k, ox⟩ => ⟨px, Z, s, _, E3, fm, h, fun t s1 ht v Z1 H1 e1 f1 r1 => k.nx s1 ht σ Z1 H1 e1 f1, ox⟩
theorem qb_set {i : Nat} (hN : X.N.Nodup) (hi : X.N[i]? = some x) (hx : Loc X.env.scope x) (he : PE X e (upX G W tx)) (hs : swapsWith e (some (.Name x pos')) pos.line X.env = pure false := by rfl) (hf : X.fn x = true ∨ X.env.scope.names.lookup x = some .local := by first | exact .inl rfl | exact .inr rfl | assumption) :
    PSs X [.Assign [.Name x pos'] e pos] (upSX G W (bSet i tx)) :=
  PSs.imp (pss_one (ps_set hN hi hx he hs hf)) fun D σ H ⟨px, Z, s, D3, E3, fm, h, k, ox⟩ => ⟨px, Z, s, _, E3, fm, h, fun t s1 ht v Z1 H1 e1 f1 r1 => by
    unfold gN at ht
    split at ht
    · rename_i y ey
      exact k.nx _ ht _ Z1 H1 e1 (f1.setSh (List.getElem?_eq_some_iff.mp ey).1 r1)
    · exact ht.elim, ox⟩
end
/-! ### the clauses -/
def outAs3 (o : Option Nat) (s : S3) : S3 := match o with
  | some i => s.set i .no
  | none => s
def endAs3 (o : Option Nat) (D : Ends3) : Ends3 := { nx := fun s => D.nx (outAs3 o s), rt := D.rt, bk := fun s => D.bk (outAs3 o s), ct := fun s => D.ct (outAs3 o s) }
def unow (s : S3) : S3 := s.map fun x => match x with
  | .ow _ => .no
  | y => y
def subX (c x : Nat) : Bool := Nat.beq c x || Nat.beq x 0
/-- a clause's suite: the error's place, its class, its fields -/
abbrev TH3 := Addr → Nat → List T → TS3
def inAs3 (o : Option Nat) (a : Addr) (s : S3) : S3 := match o with
  | some i => s.set i (.sh (.ob (.ref a)))
  | none => s
def hdl3 : List (Nat × Option Nat × TH3) → Nat → List T → Ends3 → S3 → Prop
  | [], _, _, _, _ => False
  | (x, o, th) :: r, c, fs, D, s => If3 (subX c x) (∀ a, th a c fs (endAs3 o D) (inAs3 o a s)) (hdl3 r c fs D s)
def hasN : List Nat → Nat → Bool
  | [], _ => false
  | x :: xs, c => Nat.beq x c || hasN xs c
theorem hasN_mem : ∀ {xs : List Nat} {c : Nat}, hasN xs c = true → c ∈ xs
  | x :: xs, c, h => by
    unfold hasN at h
    rw [Bool.or_eq_true] at h
    rcases h with h | h
    · rw [Nat.eq_of_beq_eq_true h]; exact List.mem_cons_self
    · exact List.mem_cons_of_mem _ (hasN_mem h)
def sTry (errs : List Nat) (b : TSX3) (hs : List (Nat × Option Nat × TH3)) : TS3 := fun D s => b D s fun s' c fs => match hasN errs c with
  | true => hdl3 hs c fs D (unow s')
  | false => False
/-- the caught error's fields, from the suite -/
structure XIn (G : Gh) (c : Nat) (fs : List T) (cls : Value) (od : Option Addr) : Prop where
  ex : ∃ C, G.M.mg (en c) = some (.ref C) ∧ cls = .ref C ∧ ((ef c = [] ∧ od = none) ∨ ∃ d vs, od = some d ∧ G.Z0 d = some (.xd ((ef c).zip vs)) ∧ RpL G.M G.Z0 fs vs)
def upH (M : Mo) (a : Addr) (cls : Value) (od : Option Addr) (th : TH3) : TS := fun D σ H => ∃ (G : Gh) (c : Nat) (fs : List T), G.M = M ∧ XIn G c fs cls od ∧ upS G (th a c fs) D σ H
/-- error.f, error in slot i, of class x, f its j-th field -/
def tXe (i : Nat) (a : Addr) (x c j : Nat) (fs : List T) : TE3 := fun s Q => match s[i]? with
  | some (.sh (.ob (.ref b))) => b = a ∧ (match Nat.beq x c, fs[j]? with
    | true, some t => Q t s
    | _, _ => False)
  | _ => False
structure Ex3 (K : PySem.W.Frag) (mg : Str → Option Value) (errs : List Nat) (x : Nat) : Prop where
  ex : ∃ X, mg (en x) = some (.ref X) ∧ ∀ c ∈ errs, ∀ C, mg (en c) = some (.ref C) → PySem.W.exmOne K (.ref C) (.ref X) = some (subX c x)
/-- what err.f asks of the classes -/
structure Xf3 (K : PySem.W.Frag) (mg : Str → Option Value) (c : Nat) : Prop where
  ex : ∃ C, mg (en c) = some (.ref C) ∧ XfC K C ∧ ∀ f ∈ ef c, PySem.W.findIn K (.ref C) f = some none
section
variable {X : Cx} {G : Gh} {px Z H : Hp} {σ : L2.St} {s : S3}
theorem unow_at {s : S3} {i : Nat} {x : Sl} (h : (unow s)[i]? = some x) : ∃ y, s[i]? = some y ∧ x = (match y with
    | .ow _ => .no
    | y => y) := by
  unfold unow at h
  rw [List.getElem?_map] at h
  cases e : s[i]? with
  | none => rw [e] at h; cases h
  | some y =>
    rw [e] at h
    exact ⟨y, rfl, (Option.some.inj h).symm⟩
theorem unow_sh {s : S3} {i : Nat} {t : T} (h : (unow s)[i]? = some (.sh t)) : s[i]? = some (.sh t) := by
  obtain ⟨y, h1, h2⟩ := unow_at h
  cases y with
  | sh u => cases h2; exact h1
  | no => cases h2
  | ow u => cases h2
theorem unow_ow {s : S3} {i : Nat} {t : T} (h : (unow s)[i]? = some (.ow t)) : False := by
  obtain ⟨y, h1, h2⟩ := unow_at h
  cases y <;> cases h2
/-- the state in which a clause's suite begins -/
theorem Fm.toSuite (f : Fm G px Z H σ s) {Zd : Hp} (hz : Same Z Zd) (hl : Same Zd H) (hd : DrOk G.M.D H Zd) (ht : ∀ a o, Zd a = some o → NT o) {σ2 : L2.St} {s2 : S3} (l2 : σ2.length = s2.length) (hs : ∀ (i : Nat) (t : T), s2[i]? = some (Sl.sh t) → σ2[i]? = σ[i]? ∧ s[i]? = some (Sl.sh t)) (ho : ∀ (i : Nat) (t : T), s2[i]? ≠ some (Sl.ow t)) :
    Fm ⟨G.M, noT H, Zd, G.q⟩ (fun _ => none) Zd H σ2 s2 where
  le := hl
  z0 := fun _ _ q => q
  nw := fun a h1 h2 => absurd h1 h2
  kp := sameKp (noT_same H)
  dr := hd
  tb := f.tb
  zt := ht
  h0 := noT_nt H
  len := l2
  sh := fun i t e => by
    obtain ⟨e1, e2⟩ := hs i t e
    obtain ⟨v, h1, h2⟩ := f.sh i t e2
    exact ⟨v, by rw [e1]; exact h1, h2.mono hz⟩
  ow := fun i t e => absurd e (ho i t)
  inj := fun i j a t u e => absurd e (ho i t)
  px := fun a o e => by cases e
/-- .. and in which it ends -/
theorem Core.fromSuite (f : Fm G px Z H σ s) {Zd Z2 H2 : Hp} (hz : Same Z Zd) (hn : ∀ a, Z a = none → Zd a ≠ none → G.H0 a = none ∧ px a = none) (g : Core ⟨G.M, noT H, Zd, G.q⟩ Z2 H2) : Core G Z2 H2 := by
  refine ⟨g.le, f.z0.trans (hz.trans g.z0), fun a h1 h2 => ?_, fun a o e n => g.kp a o (noT_of (f.kp a o e n) (f.h0 a o e)) n, g.dr, g.tb, g.zt, f.h0⟩
  cases e : Z a with
  | some o => exact f.nw a h1 (some_ne e)
  | none =>
    cases e2 : Zd a with
    | some o => exact (hn a e (some_ne e2)).1
    | none =>
      exact f.h0n (g.nw a e2 h2)
theorem Fm.fromSuite (f : Fm G px Z H σ s) {Zd Z2 H2 : Hp} {σ2 : L2.St} {s2 : S3} (hz : Same Z Zd) (hn : ∀ a, Z a = none → Zd a ≠ none → G.H0 a = none ∧ px a = none) (g : Fm ⟨G.M, noT H, Zd, G.q⟩ (fun _ => none) Z2 H2 σ2 s2) : Fm G px Z2 H2 σ2 s2 := by
  refine ⟨Core.fromSuite f hz hn g.toCore, g.len, g.sh, fun i t e => ?_, g.inj, fun a o e => ?_⟩
  · obtain ⟨a, h1, h2, h3⟩ := g.ow i t e
    have hh : noT H a = none := h2.2.1
    exact ⟨a, h1, ⟨h2.1, f.h0n hh, f.pxn hh, h2.2.2.2⟩, h3⟩
  · obtain ⟨h1, h2, h3, h4⟩ := f.px a o e
    refine ⟨g.kp a o (noT_of h1 h4.2) h4.1.not, ?_, h3, h4⟩
    cases q : Z2 a with
    | none => rfl
    | some u =>
      exfalso
      cases e2 : Zd a with
      | some w =>
        have := (hn a h2 (some_ne e2)).2
        rw [e] at this
        cases this
      | none =>
        have hh : noT H a = none := g.nw a e2 (some_ne q)
        rw [noT_of h1 h4.2] at hh
        cases hh
/-- a slot that is empty -/
theorem Fm.unset (f : Fm G px Z H σ s) (i : Nat) : Fm G px Z H (σ.set i none) (s.set i .no) := by
  have at_ : ∀ {j : Nat} {x : Sl}, (s.set i Sl.no)[j]? = some x → x ≠ .no → s[j]? = some x ∧ (σ.set i none)[j]? = σ[j]? := fun {j x} e hx => by
    rcases set_at e with ⟨_, z⟩ | ⟨ne, e⟩
    · exact absurd z hx
    · exact ⟨e, List.getElem?_set_ne (Ne.symm ne)⟩
  refine ⟨f.toCore, by rw [List.length_set, List.length_set]; exact f.len, fun j t e => ?_, fun j t e => ?_, fun j k a t u e1 e2 h1 h2 => ?_, f.px⟩
  · obtain ⟨e1, e2⟩ := at_ e (by intro z; cases z)
    rw [e2]
    exact f.sh j t e1
  · obtain ⟨e1, e2⟩ := at_ e (by intro z; cases z)
    rw [e2]
    exact f.ow j t e1
  · obtain ⟨a1, a2⟩ := at_ e1 (by intro z; cases z)
    obtain ⟨b1, b2⟩ := at_ e2 (by intro z; cases z)
    rw [a2] at h1
    rw [b2] at h2
    exact f.inj j k a t u a1 b1 h1 h2
theorem Fm.outAs (f : Fm G px Z H σ s) (o : Option Nat) : Fm G px Z H (G69.outAs o σ) (outAs3 o s) := by
  cases o with
  | none => exact f
  | some i => exact f.unset i
end
/-- the clauses of a try -/
inductive ClL (X : Cx) (M : Mo) (errs : List Nat) : List ExceptHandler → List (Nat × Option Nat × TH3) → Prop
  | nil : ClL X M errs [] []
  | as {x n : Str} {xc i : Nat} {th : TH3} {b₀ : Stmt} {su : List Stmt} {np hp : Pos} {hds : List ExceptHandler} {l : List (Nat × Option Nat × TH3)} (hx : en xc = x) (E : Ex3 X.K X.mg errs xc) (hg : Gl X x) (hdb : (x == ("__debug__" : Str)) = false) (hi : X.N[i]? = some n) (hl : X.env.kindOf n = some .local)
      (hs : ∀ (a : Addr) (oe : Obj) (cls : Value) (d : Option Addr) (pn : List (Addr × Obj)), Zc cls d oe → (∃ vs, oe.data = .fields vs) → ∀ (G : Gh) (c : Nat) (fs : List T), G.M = M → XIn G c fs cls d → PSs (X.suite a ((a, oe) :: pn)) (b₀ :: su) (upS G (th a c fs))) (r : ClL X M errs hds l) :
      ClL X M errs (.ExceptHandler (some (.Name x np)) (some n) (b₀ :: su) hp :: hds) ((xc, some i, th) :: l)
  | no {x : Str} {xc : Nat} {th : TH3} {b₀ : Stmt} {su : List Stmt} {np hp : Pos} {hds : List ExceptHandler} {l : List (Nat × Option Nat × TH3)} (hx : en xc = x) (E : Ex3 X.K X.mg errs xc) (hg : Gl X x) (hdb : (x == ("__debug__" : Str)) = false)
      (hs : ∀ (a : Addr) (oe : Obj) (cls : Value) (d : Option Addr) (pn : List (Addr × Obj)), Zc cls d oe → (∃ vs, oe.data = .fields vs) → ∀ (G : Gh) (c : Nat) (fs : List T), G.M = M → XIn G c fs cls d → PSs (X.suite a ((a, oe) :: pn)) (b₀ :: su) (upS G (th a c fs))) (r : ClL X M errs hds l) :
      ClL X M errs (.ExceptHandler (some (.Name x np)) none (b₀ :: su) hp :: hds) ((xc, none, th) :: l)
section
variable {X : Cx} {G : Gh} {errs : List Nat}
theorem suite_in {px Z H : Hp} {σ : L2.St} {s : S3} {c : Nat} {fs : List T} {cls : Value} {od : Option Addr} {D3 : Ends3} {D : Ends} {o : Option Nat} {th : TH3} {a : Addr} (f : Fm G px Z H σ s) (xr : XrS G px Z H σ s c fs cls od) (k : EndsOk G px Z D3 D)
    (h : th a c fs (endAs3 o D3) (inAs3 o a (unow s))) (_ : H a = none) : upH G.M a cls od th (endAs o a cls od D) (inAs o a σ) H := by
  obtain ⟨C, x1, x2, x3⟩ := xr
  have step : ∀ Zd : Hp, Same Z Zd → Same Zd H → DrOk G.M.D H Zd → (∀ a o, Zd a = some o → NT o) → (∀ a, Z a = none → Zd a ≠ none → G.H0 a = none ∧ px a = none) → ((ef c = [] ∧ od = none) ∨ ∃ d vs, od = some d ∧ Zd d = some (.xd ((ef c).zip vs)) ∧ RpL G.M Zd fs vs) → upH G.M a cls od th (endAs o a cls od D) (inAs o a σ) H := by
    intro Zd hz hl hd hzt hn hx
    refine ⟨⟨G.M, noT H, Zd, G.q⟩, c, fs, rfl, ⟨C, x1, x2, hx⟩, fun _ => none, Zd, inAs3 o a (unow s), endAs3 o D3, ?_, h, ?_⟩
    · have hlen : σ.length = (unow s).length := by unfold unow; rw [List.length_map]; exact f.len
      cases o with
      | none => exact f.toSuite hz hl hd hzt hlen (fun i t e => ⟨rfl, unow_sh e⟩) fun i t e => unow_ow e
      | some i =>
        have f0 : Fm ⟨G.M, noT H, Zd, G.q⟩ (fun _ => none) Zd H σ (unow s) := f.toSuite hz hl hd hzt hlen (fun i t e => ⟨rfl, unow_sh e⟩) fun i t e => unow_ow e
        show Fm _ _ _ _ (σ.set i (some (.ref a))) ((unow s).set i (.sh (.ob (.ref a))))
        by_cases hi : i < (unow s).length
        · exact f0.setSh hi (.ob _)
        · rw [List.set_eq_of_length_le (by omega), List.set_eq_of_length_le (by omega)]
          exact f0
    · refine ⟨fun s' h' σ' Z' H' e' f' => ?_, fun t h' v Z' H' e' c' r' => ?_, fun s' h' σ' Z' H' e' f' => ?_, fun s' h' σ' Z' H' e' f' => ?_, fun y u h' => ?_⟩
      · exact .inl (k.nx _ h' _ Z' H' (hz.trans e') ((f.fromSuite hz hn f').outAs o))
      · exact k.rt t h' v Z' H' (hz.trans e') (Core.fromSuite f hz hn c') r'
      · exact k.bk _ h' _ Z' H' (hz.trans e') ((f.fromSuite hz hn f').outAs o)
      · exact k.ct _ h' _ Z' H' (hz.trans e') ((f.fromSuite hz hn f').outAs o)
      · exact h'.elim
  rcases x3 with ⟨y1, y2⟩ | ⟨d, vs, y1, y2, y3, y4, _, y5, y6⟩
  · exact step Z (fun _ _ q => q) f.le f.dr f.zt (fun a h1 h2 => absurd h1 h2) (.inl ⟨y1, y2⟩)
  · have sm : Same Z (upd Z d (.xd ((ef c).zip vs))) := fun b u e => by
      by_cases hb : b = d
      · subst hb
        rw [upd_same, ← y5]
        exact f.le b u e
      · rw [upd_ne hb]; exact e
    refine step (upd Z d (.xd ((ef c).zip vs))) sm (fun b u e => ?_) ?_ (fun b u e => ?_) (fun b h1 h2 => ?_) (.inr ⟨d, vs, y1, upd_same, y6.mono sm⟩)
    · by_cases hb : b = d
      · subst hb
        rw [upd_same] at e
        rw [y5]; exact e
      · rw [upd_ne hb] at e
        exact f.le b u e
    · have dr := f.dr
      revert dr y4
      cases G.M.D with
      | none => intro _ _; trivial
      | some w =>
        obtain ⟨d1, l1, c1⟩ := w
        intro y4 dr
        exact ⟨dr.1, by rw [upd_ne y4.1.symm]; exact dr.2.1, by rw [upd_ne y4.2.1.symm]; exact dr.2.2.1, by rw [upd_ne y4.2.2.symm]; exact dr.2.2.2⟩
    · by_cases hb : b = d
      · subst hb
        rw [upd_same] at e
        cases e
        trivial
      · rw [upd_ne hb] at e
        exact f.zt b u e
    · by_cases hb : b = d
      · subst hb; exact ⟨y2, y3⟩
      · rw [upd_ne hb] at h2; exact absurd h1 h2
theorem cl_of (hM : G.M = ⟨X.K, X.mg, G.M.D⟩) {hds : List ExceptHandler} {hs : List (Nat × Option Nat × TH3)} (cl : ClL X G.M errs hds hs) : ∃ l, ClOk X hds l ∧ ∀ {px Z H : Hp} {σ : L2.St} {s : S3} {c : Nat} {fs : List T} {cls : Value} {od : Option Addr} {D3 : Ends3} {D : Ends},
    c ∈ errs → Fm G px Z H σ s → XrS G px Z H σ s c fs cls od → EndsOk G px Z D3 D → hdl3 hs c fs D3 (unow s) → wMix X.K (fun _ _ _ _ => False) D l cls od σ H := by
  induction cl with
  | nil => exact ⟨[], .nil, fun _ _ _ _ h => h.elim⟩
  | @as x n xc i th b₀ su np hp hds l hx E hg hdb hi hl hs r ih =>
    obtain ⟨l2, ck, go⟩ := ih
    obtain ⟨Cx, g, ex⟩ := E.ex
    refine ⟨(.ref Cx, some i, fun a cls d => upH G.M a cls d th) :: l2, .as ⟨hg, hdb, .inl (hx ▸ g)⟩ hi hl (fun a oe cls d pn hz hf => ⟨fun pins s σ H D I ⟨G', c, fs, e1, e2, e3⟩ => (hs a oe cls d pn hz hf G' c fs e1 e2).run pins s σ H D I e3⟩) ck, fun hc f xr k h => ?_⟩
    have xr0 := xr
    obtain ⟨C, x1, x2, x3⟩ := xr
    rw [hM] at x1
    refine ⟨_, by rw [x2]; exact ex _ hc C x1, fun hb a na => ?_, fun hb => ?_⟩
    · have h : If3 (subX _ xc) _ _ := h
      rw [hb] at h
      exact suite_in f xr0 k (h a) na
    · have h : If3 (subX _ xc) _ _ := h
      rw [hb] at h
      exact go hc f xr0 k h
  | @no x xc th b₀ su np hp hds l hx E hg hdb hs r ih =>
    obtain ⟨l2, ck, go⟩ := ih
    obtain ⟨Cx, g, ex⟩ := E.ex
    refine ⟨(.ref Cx, none, fun a cls d => upH G.M a cls d th) :: l2, .no ⟨hg, hdb, .inl (hx ▸ g)⟩ (fun a oe cls d pn hz hf => ⟨fun pins s σ H D I ⟨G', c, fs, e1, e2, e3⟩ => (hs a oe cls d pn hz hf G' c fs e1 e2).run pins s σ H D I e3⟩) ck, fun hc f xr k h => ?_⟩
    have xr0 := xr
    obtain ⟨C, x1, x2, x3⟩ := xr
    rw [hM] at x1
    refine ⟨_, by rw [x2]; exact ex _ hc C x1, fun hb a na => ?_, fun hb => ?_⟩
    · have h : If3 (subX _ xc) _ _ := h
      rw [hb] at h
      exact suite_in f xr0 k (h a) na
    · have h : If3 (subX _ xc) _ _ := h
      rw [hb] at h
      exact go hc f xr0 k h
theorem q_try {body : List Stmt} {h₀ : ExceptHandler} {hds : List ExceptHandler} {hs : List (Nat × Option Nat × TH3)} {b : TSX3} {pos : Pos} (hM : G.M = ⟨X.K, X.mg, G.M.D⟩) (hst : X.stack = X.env :: X.outer) (hfr : X.env.frame = some X.env.locals) (hN : X.N.Nodup)
    (hb : ∀ (W : WX) (pn : List (Addr × Obj)) (xe : Value → Shared → Prop), Takes (X.tr pn xe) W → PSs (X.tr pn xe) body (upSX G W b)) (cl : ClL X G.M errs (h₀ :: hds) hs) : PS X (.Try body (h₀ :: hds) [] [] pos) (upS G (sTry errs b hs)) := by
  obtain ⟨l, ck, go⟩ := cl_of hM cl
  refine PS.imp (ps_tryM hst hfr hN takes_none5 (fun W pn xe tk _ => hb W pn xe tk) ck) fun D σ H ⟨px, Z, s, D3, fm, h, k⟩ => ?_
  refine ⟨px, Z, s, D3, _, fm, h, k, fun s' c fs h' cls od σ' Z' H' e' f' xr => ?_⟩
  dsimp only at h'
  split at h'
  · rename_i hc
    exact go (hasN_mem hc) f' xr (k.mono e') h'
  · exact h'.elim
theorem q_xe {a : Addr} {oe : Obj} {cls : Value} {od : Option Addr} {pn : List (Addr × Obj)} {G' : Gh} {c xc i j : Nat} {fs : List T} {n f : Str} {p1 pos : Pos} (hM : G'.M = ⟨X.K, X.mg, G'.M.D⟩) (F : Xf3 X.K X.mg xc) (hj : (ef xc)[j]? = some f) (hnd : (ef xc).Nodup) (hz : Zc cls od oe) (hf : ∃ vs, oe.data = .fields vs)
    (x : XIn G' c fs cls od) (hi : X.N[i]? = some n := by rfl) (hv : Vis X.env.scope n := by first | exact Or.inl rfl | exact Or.inr (Or.inl rfl) | exact Or.inr (Or.inr rfl)) (hd : (n == ("__debug__" : Str)) = false := by decide)
    (hcd : (n == ("__classdict__" : Str)) = false := by decide) (hb : attributeBase (.Name n p1) f X.env (eval (.Name n p1) X.env) = eval (.Name n p1) X.env := by rfl) :
    PE (X.suite a ((a, oe) :: pn)) (.Attribute (.Name n p1) f pos) (up G' (tXe i a xc c j fs)) := by
  obtain ⟨C, g, xf, no⟩ := F.ex
  refine PE.imp (pe_xf (X := X) xf (no f (List.mem_of_getElem? hj)) hz hf (pv (X := X.suite a ((a, oe) :: pn)) i hi hv hd hcd) hb) fun σ H Q ⟨px, Z, s, Q3, fm, h, k⟩ => ?_
  unfold tXe at h
  split at h
  · rename_i b e
    obtain ⟨eb, h⟩ := h
    subst eb
    split at h
    · rename_i t hc ht
      have ec := Nat.eq_of_beq_eq_true hc
      subst ec
      obtain ⟨v, h1, h2⟩ := fm.sh i _ e
      cases h2
      obtain ⟨C', x1, x2, x3⟩ := x.ex
      rw [hM] at x1
      have x1' : X.mg (en xc) = some (.ref C') := x1
      rw [g] at x1'
      cases x1'
      rcases x3 with ⟨y1, _⟩ | ⟨d, vs, y1, y2, y3⟩
      · rw [y1] at hj
        cases hj
      · obtain ⟨w, w1, w2⟩ := y3.get ht
        exact ⟨_, h1, rfl, x2, d, _, w, y1, fm.le _ _ (fm.z0 _ _ y2), lookup_zip hnd hj w1, k t s h w Z H (fun _ _ q => q) fm (w2.mono fm.z0)⟩
    · exact h.elim
  · exact h.elim
end
theorem hM_of {G G' : Gh} {K : PySem.W.Frag} {mg : Str → Option Value} (hG : G'.M = G.M) (hM : G.M = ⟨K, mg, G.M.D⟩) : G'.M = ⟨K, mg, G'.M.D⟩ := by
  rw [hG]
  exact hM
theorem exm3 {K : PySem.W.Frag} {C : Addr} {cls : Value} {b : Bool} (h1 : PySem.W.subIn K (.ref C) (.type "BaseException") = some true) (h2 : PySem.W.hasDictIn K C = true) (h3 : PySem.W.typeIn K (.ref C) = some (.type "type")) (h4 : PySem.W.subIn K cls (.ref C) = some b) :
    PySem.W.exmOne K cls (.ref C) = some b := by
  obtain ⟨cd, h2, _⟩ := PySem.W.any_some h2
  unfold PySem.W.exmOne
  rw [h1, if_pos (by rfl)]
  show (if ((PySem.W.clsIn K C).isSome && PySem.W.typeIn K (.ref C) == some (.type "type")) = true then PySem.W.subIn K cls (.ref C) else none) = some b
  rw [h2, h3, if_pos (by rfl)]
  exact h4
end G69
namespace G69
open PySem PySem.Spec PyProof.Rows L2
/-! ### {} -/
theorem qf_d0 {X : Cx} {G : Gh} {pos : Pos} : PE X (.Dict [] [] pos) (upF G (tC3 (.dic [] []))) :=
  PE.imp pe_dnewK fun σ H Q ⟨px, Z, s, Q3, fm, h, k⟩ p np => by
    obtain ⟨f2, hp, hno⟩ := fm.mute (o := .dK []) np
    exact k _ s h p Z _ (fun _ _ q => q) f2 hp hno ⟨[], upd_same, rfl, .nil⟩
/-! ### and, or that the unifier does not open -/
@[irreducible] def tAndX (ta tb : TE3) : TE3 := tAndE ta tb
@[irreducible] def tOrX (ta tb : TE3) : TE3 := tOrE ta tb
section
variable {X : Cx} {G : Gh} {a b : Expr} {rest : List Expr} {ta tb : TE3} {pos : Pos}
theorem qe_andX (ha : PE X a (up G ta)) (hb : PE X (.BoolOp .And (b :: rest) pos) (up G tb)) : PE X (.BoolOp .And (a :: b :: rest) pos) (up G (tAndX ta tb)) := by
  unfold tAndX
  exact qe_and ha hb
theorem qe_orX (ha : PE X a (up G ta)) (hb : PE X (.BoolOp .Or (b :: rest) pos) (up G tb)) : PE X (.BoolOp .Or (a :: b :: rest) pos) (up G (tOrX ta tb)) := by
  unfold tOrX
  exact qe_or ha hb
end
theorem and_bl {ta tb : TE3} {s : S3} {Q : K3} {a b : Bool} (h1 : ∀ K : K3, K (.bl a) s → ta s K) (h2 : a = true → ∀ K : K3, K (.bl b) s → tb s K) (q : Q (.bl (a && b)) s) : tAndX ta tb s Q := by
  unfold tAndX
  refine h1 _ ?_
  cases a with
  | false => exact q
  | true => exact h2 rfl _ q
theorem or_bl {ta tb : TE3} {s : S3} {Q : K3} {a b : Bool} (h1 : ∀ K : K3, K (.bl a) s → ta s K) (h2 : a = false → ∀ K : K3, K (.bl b) s → tb s K) (q : Q (.bl (a || b)) s) : tOrX ta tb s Q := by
  unfold tOrX
  refine h1 _ ?_
  cases a with
  | true => exact q
  | false => exact h2 rfl _ q
end G69
namespace G69
open PySem PySem.Spec PyProof.Rows L2
/-! ### text * 0, text * 1 -/
def fMulX : F2 := fun x y P => match x, y with
  | .int i, .int j => CMul i j ∧ P (.int (i * j))
  | .lst xs, .int k => (0 ≤ k ∧ k ≤ 1000 ∧ xs.length * k.toNat ≤ sizeLine) ∧ P (.lst (List.replicate k.toNat xs).flatten)
  | .str z, .int k => (0 ≤ k ∧ k ≤ 1) ∧ P (.str (if k < 1 then ⟨#[]⟩ else z))
  | _, _ => False
abbrev rMulS : R2 := fun x y H Q => ∃ (z : Str) (n : Int), x = .str z ∧ y = .int n ∧ 0 ≤ n ∧ n ≤ 1 ∧ Q (.str (if n < 1 then ⟨#[]⟩ else z)) H
theorem op_mulZ {X : Cx} : OpR X (binaryOp .Mult) rMulS := by
  rintro pins s σ H x y v u Q I rx ry ⟨z, n, rfl, rfl, h0, h1, q⟩
  obtain ⟨t, rfl⟩ := rx
  obtain ⟨t', rfl⟩ := ry
  have hn : n = 0 ∨ n = 1 := by omega
  rcases hn with rfl | rfl
  · exact P.mul_str_none (by decide) (by decide) ⟨.str _, H, I.tok _, ⟨_, rfl⟩, q⟩
  · refine P.mul_str (by decide) (fun _ h => by simp at h) (fun _ h => by simp at h) ?_
    exact ⟨.str z, H, I, ⟨_, rfl⟩, q⟩
section
variable {X : Cx} {M : Mo}
theorem l_mulX : OpR X (binaryOp .Mult) (rOr (rOr (rI CMul fun i j => .int (i * j)) rRep) rMulS) := opOr l_mul op_mulZ
theorem L_mulX : OpL (rOr (rOr (rI CMul fun i j => .int (i * j)) rRep) rMulS) M fMulX := by
  intro Z H x y tx ty P Q l rx ry h k
  unfold fMulX at h
  split at h
  · exact .inl (L_mul (M := M) Z H x y _ _ P Q l rx ry h k)
  · exact .inl (L_mul (M := M) Z H x y _ _ P Q l rx ry h k)
  · cases rx with
    | str hz =>
      cases ry
      refine .inr ⟨_, _, rfl, rfl, h.1.1, h.1.2, (k _ h.2).same l (.str ?_)⟩
      split
      · exact Nat.zero_le _
      · exact hz
  · exact h.elim
end
/-! ### xs[::-1] -/
def fRevL : F1 := fun x P => match x with
  | .lst ts => P (.lst ts.reverse)
  | _ => False
theorem RpL.rev {M : Mo} {Z : Hp} {ts : List T} {vs : List V} (r : RpL M Z ts vs) : RpL M Z ts.reverse vs.reverse := by
  induction ts generalizing vs with
  | nil => cases r; exact .nil
  | cons t ts ih =>
    cases r with
    | cons h rr =>
      rw [List.reverse_cons, List.reverse_cons]
      exact (ih rr).app (.cons h .nil)
theorem q_revL {X : Cx} {G : Gh} {e : Expr} {te : TE3} {k : Nat} {p1 p2 p3 pos : Pos} (hK : X.K = G.M.K) (he : PE X e (up G te)) : PE X (.Subscript e (.Slice none none (some (.UnaryOp .USub (.Constant (.int 1) k p1) p2)) p3) pos) (up G (tUn3 fRevL te)) :=
  PE.imp (pe_revL he) fun σ H Q ⟨px, Z, s, Q3, fm, h, kx⟩ => ⟨px, Z, s, _, fm, h, fun t s1 hf v Z1 H1 e1 f1 r1 => by
    rw [hK]
    unfold fRevL at hf
    split at hf
    · cases r1 with
      | lst g n r =>
        refine ⟨_, _, rfl, .inl (.inl (f1.le _ _ g)), fun p np => ?_⟩
        obtain ⟨e2, f2⟩ := f1.new (o := .lst (List.reverse _)) np
        exact kx _ s1 hf _ _ _ (e1.trans e2) f2 (.lst upd_same (by rw [List.length_reverse]; exact n) (r.rev.mono e2))
    · exact hf.elim⟩
/-! ### == and != of instances or of data -/
def isIns : T → Bool
  | .ins _ _ => true
  | _ => false
def fEqA (c : Nat) (sp : Sp3) (neg : Bool) : F2 := fun x y P => match isIns x with
  | true => fEqO c sp neg x y P
  | false => (match neg with
    | true => fNe x y P
    | false => fEq x y P)
def tEqA (c : Nat) (sp : Sp3) (neg : Bool) (ta tb : TE3) : TE3 := fun s Q => ta s fun x s1 => tb s1 fun y s2 => fEqA c sp neg x y fun t => Q t s2
section
variable {X : Cx} {G : Gh} {a b : Expr} {ta tb : TE3} {c k j : Nat} {ps : List Str} {sp : Sp3} {pos : Pos}
theorem up_eqA (hM : G.M = ⟨X.K, X.mg, G.M.D⟩) (O : Oc X.K X.mg c) (F : Cf X.K X.mg c) {C : Addr} (g : X.mg (cn c) = some (.ref C)) {neg : Bool} {r : R2} (hr : OpL r G.M (match neg with
    | true => fNe
    | false => fEq)) {σ : L2.St} {H : Hp} {Q : VK} (h : up G (tEqA c sp neg ta tb) σ H Q) :
    tOp (rOr (fun x y H Q => ∃ a dx fs t, x = .ref a ∧ H a = some (.ins C dx fs) ∧ TyX X.K H y t ∧ PySem.W.notFirst X.K C t = true ∧ lift X.K X.mg sp [.ref a, y] H (fun v H' => ∃ r, v = .bl r ∧ Q (.bl (xor neg r)) H') E0) r) (up G ta) (up G tb) σ H Q := by
  obtain ⟨px, Z, s, Q3, fm, h, k⟩ := h
  refine ⟨px, Z, s, _, fm, h, fun x s1 hb1 v Z1 H1 e1 f1 r1 => ⟨px, Z1, s1, _, f1, hb1, fun y s2 hf w Z2 H2 e2 f2 r2 => ?_⟩⟩
  unfold fEqA at hf
  split at hf
  · unfold fEqO at hf
    split at hf
    · split at hf
      · rename_i hb
        rw [Bool.and_eq_true] at hb
        have ec1 := Nat.eq_of_beq_eq_true hb.1
        have ec2 := Nat.eq_of_beq_eq_true hb.2
        subst ec1
        subst ec2
        have r1' := r1.mono e2
        have rr : RpL G.M Z2 _ [v, w] := .cons r1' (.cons r2 .nil)
        cases r1' with
        | ins g1 g2 g3 q1 =>
          cases r2 with
          | ins g1' g2' g3' q1' =>
            rw [hM] at g1 g1'
            have eC := cfSame g g1
            have eC' := cfSame g g1'
            subst eC
            subst eC'
            refine .inl ⟨_, _, _, .ref C, rfl, f2.le _ _ g2, (O.ow C g).ty (F.cl C g) (f2.le _ _ g2'), nf_self, ?_⟩
            refine lift_res hM (f2.toCore.sz hM) f2.dr rr hf fun t ht u Z3 H3 co r3 => ?_
            split at ht
            · cases r3
              exact ⟨_, rfl, k _ s2 ht _ Z3 H3 (e1.trans (e2.trans co.z0)) (f2.call co (fun _ _ q => q) (fun _ _ q => q) fun a h1 h2 => absurd h1 h2) (.bl _)⟩
            · exact ht.elim
      · exact hf.elim
    · exact hf.elim
  · refine .inr (hr Z2 H2 v w x y _ Q f2.le (r1.mono e2) r2 ?_ fun t p u Z3 H3 g r3 => k t s2 p u Z3 H3 (e1.trans (e2.trans g.zz)) (f2.grow g) r3)
    cases neg <;> exact hf
theorem q_tneA (hM : G.M = ⟨X.K, X.mg, G.M.D⟩) (O : Oc X.K X.mg c) (M : Mt3 X.prog X.w X.K X.mg X.base c "__eq__" ps k sp) (hr : Room j X.A) (hj : k + 1 ≤ j) (ha : PE X a (up G ta)) (hb : PE X b (up G tb)) (hm : behindInMarks .NotEq b = false) :
    PT X (.Compare a [.NotEq] [b] pos) (upT G (tBl (tEqA c sp true ta tb))) := by
  obtain ⟨C, f, fd, g, F, hm', hbd, hf⟩ := M.ex
  refine PT.imp (pt_cmpR (opOr (op_neO (C := C) (sp := fun vs H Q _ => lift X.K X.mg sp vs H Q E0) ⟨f, fd, FnOk.to0 F, hm', hbd, hf⟩ (O.ow C g).ne (O.ow C g).hm hr hj) (l_ne (M := G.M) (by rw [hM]) hr.units)) ha hb hm) fun σ H Q h => ?_
  have := up_eqA hM O M.cf g (neg := true) L_ne (up_bl h)
  simp only [true_xor'] at this
  exact this
end
/-! ### a, b, c = x, y, z -/
def sPar3 (i j l : Nat) (ta : TA3) : TS3 := fun D s => ta s fun ts s1 => match ts with
  | [t, u, v] => gN i t s1 fun s2 => gN j u s2 fun s3 => gN l v s3 D.nx
  | _ => False
theorem q_par3 {X : Cx} {G : Gh} {pos : Pos} {i j l : Nat} {x y z : Str} {e1 e2 e3 : Expr} {ta : TA3} {px' py pz pt : Pos} {kt k2 : Nat} {pt2 : Pos} (hc : X.calm = true) (hN : X.N.Nodup) (hi : X.N[i]? = some x) (hj : X.N[j]? = some y) (hl : X.N[l]? = some z) (hij : i ≠ j) (hil : i ≠ l) (hjl : j ≠ l)
    (hx : X.env.scope.names.lookup x = some .local) (hy : X.env.scope.names.lookup y = some .local) (hz : X.env.scope.names.lookup z = some .local) (ha : PA X [e1, e2, e3] (upA G ta))
    (hw : swappedStores [.Tuple [.Name x px', .Name y py, .Name z pz] kt pt] (.Tuple [e1, e2, e3] k2 pt2) X.env = pure (some [x, y, z]))
    (hs : swapsWithSole [.Tuple [.Name x px', .Name y py, .Name z pz] kt pt] (.Tuple [e1, e2, e3] k2 pt2) pos.line X.env = pure false := by rfl) :
    PS X (.Assign [.Tuple [.Name x px', .Name y py, .Name z pz] kt pt] (.Tuple [e1, e2, e3] k2 pt2) pos) (upS G (sPar3 i j l ta)) :=
  PS.imp (ps_par3 hc hN hi hj hl hij hil hjl hx hy hz ha hw hs) fun D σ H ⟨px, Z, s, D3, fm, h, k⟩ => ⟨px, Z, s, _, fm, h, fun ts s1 ht vs Z1 H1 e1 f1 r1 => by
    split at ht
    · cases r1 with
      | cons ra rr =>
        cases rr with
        | cons rb rr =>
          cases rr with
          | cons rc rr =>
            cases rr
            refine ⟨_, _, _, rfl, ?_⟩
            unfold gN at ht
            split at ht
            · rename_i y1 ey1
              split at ht
              · rename_i y2 ey2
                split at ht
                · rename_i y3 ey3
                  exact k.nx _ ht _ Z1 H1 e1 (((f1.setSh (List.getElem?_eq_some_iff.mp ey1).1 ra).setSh (List.getElem?_eq_some_iff.mp ey2).1 rb).setSh (List.getElem?_eq_some_iff.mp ey3).1 rc)
                · exact ht.elim
              · exact ht.elim
            · exact ht.elim
    · exact ht.elim⟩
/-! ### x not in xs, xs one's own -/
def tNinO (ta : TE3) (i : Nat) : TE3 := fun s Q => ta s fun x s1 => match peek s1 i with
  | some (.lst ys) => (flatT x = true ∧ ys.all flatT = true) ∧ Q (.bl (!inT x ys)) s1
  | _ => False
theorem q_ninO {X : Cx} {G : Gh} {a : Expr} {ta : TE3} {x : Str} {p1 pos : Pos} (i : Nat) (hK : X.K = G.M.K) (ha : PE X a (up G ta)) (hN : X.N[i]? = some x := by rfl) (hv : Vis X.env.scope x := by first | exact Or.inl rfl | exact Or.inr (Or.inl rfl) | exact Or.inr (Or.inr rfl)) (hd : (x == ("__debug__" : Str)) = false := by decide)
    (hcd : (x == ("__classdict__" : Str)) = false := by decide) : PE X (.Compare a [.NotIn] [.Name x p1] pos) (up G (tNinO ta i)) :=
  PE.imp (pe_cmpR (l_notin hK) ha (pv i hN hv hd hcd) (by rfl)) fun σ H Q ⟨px, Z, s, Q3, fm, h, k⟩ => ⟨px, Z, s, _, fm, h, fun t s1 ht v Z1 H1 e1 f1 r1 => by
    split at ht
    · rename_i ys e
      obtain ⟨b, vs, g1, g2, g3⟩ := f1.peekL e
      obtain ⟨⟨c1, c2⟩, ht⟩ := ht
      obtain ⟨rfl, q1⟩ := r1.flat c1
      obtain ⟨rfl, q2⟩ := g3.flat c2
      refine ⟨_, g1, .inr ⟨_, _, rfl, .inl (.inl (.inl g2)), q1, q2, ?_⟩⟩
      rw [inT_fv]
      exact k _ s1 ht _ Z1 H1 e1 f1 (.bl _)
    · exact ht.elim⟩
end G69
namespace G69
open PySem PySem.Spec PyProof.Rows L2
/-! ### promises that ask for no guards: repr -/
structure FnOkG (P : Program) (w : World) (K : PySem.W.Frag) (mg : Str → Option Value) (base : Heap) (CX : CXT) (k : Nat) (f : Addr) (fd : FuncData) (ps : List Str) (sp : Sp) : Prop where
  len : ∀ vs H Q E, sp vs H Q E → vs.length = ps.length
  run : ∀ (A : Around) (outer : List Env) (s : Shared) (H : Hp) (args : Args) (us : List Value) (vs : List V) (Q : VK) (E : XK), Room k A → A.guards = some [] →
    Env0 P w K mg base A outer s H → BindsTo s fd args (ps.zip us) → Vals vs us → sp vs H Q E → codeAny (model P w) A (.call (.ref f) args) (CR CX outer P w H s Q E) s
section
variable {P : Program} {w : World} {K : PySem.W.Frag} {mg : Str → Option Value} {base : Heap} {k : Nat} {f : Addr} {fd : FuncData} {ps : List Str} {sp : Sp}
theorem FnOkG.noX (F : FnOkG P w K mg base (L2.CX P w) k f fd ps sp) : FnOkG P w K mg base CX0 k f fd ps (fun vs H Q _ => sp vs H Q E0) where
  len := fun vs H Q _ h => F.len vs H Q E0 h
  run := fun A outer s H args us vs Q E hr hg he hb hv h => codeAny_mono (F.run A outer s H args us vs Q E0 hr hg he hb hv h) fun r s' q => by
    match r, q with
    | .error e, q =>
      obtain ⟨_, _, _, _, _, _, _, _, _, _, _, _, z⟩ := q
      exact z.elim
    | .ok (.ret _), q => exact q
    | .ok .next, q => exact q
    | .ok .brk, q => exact q
    | .ok .cont, q => exact q
theorem ok_guard {CX : CXT} {x qual : Str} {st : Stmt} {N : List Str} (F : Fun K x qual st f fd) (S : FnScope N ps (defScope st)) (len : ∀ vs H Q E, sp vs H Q E → vs.length = ps.length)
    (hb : ∀ (cdv : Value) (A : Around) (outer : List Env) (s : Shared) (H : Hp) (vs : List V) (Q : VK) (E : XK), Room k (A.deeper (envOfC qual (defScope st) s.heap.objs.size f cdv)) → A.guards = some [] → fd.code = cdv → sp vs H Q E →
      ∃ t, PSs (cxOf CX P w K mg base N qual (defScope st) f cdv A outer s H E) (defBody st) t ∧ t { nx := fun _ H' => Q .non H', rt := Q } (start N vs) H) : FnOkG P w K mg base CX (k + 1) f fd ps sp := by
  obtain ⟨oc, od, kV, doc, pm, an, cdv, ct, osl, rfl, lk, hcd⟩ := F.ex
  refine ⟨len, fun A outer s H args us vs Q E room hg env bnd vals pre => ?_⟩
  obtain ⟨t, body, post⟩ := hb cdv A outer s H vs Q E (room.deeper _) hg rfl pre
  have up : ∀ b o, base.get? b = some o → s.heap.get? b = some o := fun b o e => (env.bs b o e).1
  refine codeAny_call_function room.depth (env.mod.kin.keeps up _ _ lk) rfl S.co S.gen rfl (PySem.W.codeRec_of (env.mod.kin.keeps up) hcd) (bnd _ _ _ _ ?_)
  refine wpAny_newFunctionEnv_cells S.kind (fun y hy => (S.par y.1 (List.of_mem_zip hy).1).imp id fun q => ⟨q, PySem.W.cellsFrom_some _ _ _ (.inl q)⟩) fun env' eq s1 lay => ?_
  cases eq
  refine ⟨(env.mod.nolimit.keeps up).keeps lay.toInCall.keep, codeAny_func ?_⟩
  refine wpAny_mono (body.run [] s1 _ H _ (inv_start S room.hd env (len _ _ _ _ pre) vals lay) post) (fun fl s' out => ?_) fun _ _ out => out
  match fl, out with
  | .ret u, ⟨v, _, H', J, rv, q⟩ => exact ⟨v, H', J.os, J.bare, J.base, J.hok, rv, q⟩
  | .next, ⟨_, H', J, q⟩ => exact ⟨.non, H', J.os, J.bare, J.base, J.hok, rfl, q⟩
  | .brk, ⟨_, _, _, q⟩ => exact q.elim
  | .cont, ⟨_, _, _, q⟩ => exact q.elim
end
/-- .. and the tables of lambdas are what they must be -/
def spLawT (K : PySem.W.Frag) (mg : Str → Option Value) : Sp := fun vs H Q E => spLaw K vs H Q E ∧ TbOk K mg H
/-! ### the law with no guards around it -/
section
variable {P : Program} {w : World} {K : PySem.W.Frag} {mg mb : Str → Option Value} {k : Nat} {fa a : Addr} {fd : FuncData} {x : Str} {sp : Sp} {s₁ : Shared} {vs : List Value} {ns : List Int}
/-- the script alone is told, if it is none of the module's things -/
def scrH (K : PySem.W.Frag) (a : Addr) (vs : List Value) (ns : List Int) : Hp := fun b =>
  if b = a ∧ K.lookup a = none then some (.frz { cls := .type "list", data := .seq vs.toArray } (.lst (ns.map V.int))) else none
theorem scr_at {b : Addr} {u : HO} (h : scrH K a vs ns b = some u) : b = a ∧ K.lookup a = none ∧ u = .frz { cls := .type "list", data := .seq vs.toArray } (.lst (ns.map V.int)) := by
  unfold scrH at h
  split at h
  · rename_i hc
    exact ⟨hc.1, hc.2, (Option.some.inj h).symm⟩
  · cases h
theorem scr_no {b : Addr} (h : b = a → K.lookup a ≠ none) : scrH K a vs ns b = none := if_neg fun hc => h hc.1 hc.2
/-- the script and the tables -/
def startH (Ps : List Addr) (H : Hp) : Hp := fun b => if b ∈ Ps then some (.tbl #[]) else H b
theorem start_at {Ps : List Addr} {b : Addr} {u : HO} (h : startH Ps (scrH K a vs ns) b = some u) : (b ∈ Ps ∧ u = .tbl #[]) ∨ (b ∉ Ps ∧ b = a ∧ K.lookup a = none ∧ u = .frz { cls := .type "list", data := .seq vs.toArray } (.lst (ns.map V.int))) := by
  unfold startH at h
  split at h
  · rename_i hb
    exact .inl ⟨hb, (Option.some.inj h).symm⟩
  · rename_i hb
    exact .inr ⟨hb, scr_at h⟩
/-- the tables' places are what they must be -/
structure TabsIn (K : PySem.W.Frag) (mg : Str → Option Value) (h : Heap) : Prop where
  em : ∀ e ∈ tabs3 K mg, h.get? e.2.1 = some { cls := .none, data := .fields #[] }
  no : ∀ e ∈ tabs3 K mg, K.lookup e.2.1 = none
  hd : ∀ e ∈ tabs3 K mg, PySem.W.CodeHd h e.1 e.2.1
theorem TabsIn.none (e : lamDefs = []) {K : PySem.W.Frag} {mg : Str → Option Value} {h : Heap} : TabsIn K mg h := by
  have z : tabs3 K mg = [] := by
    unfold tabs3
    rw [e]
    rfl
  exact ⟨fun p hp => (by rw [z] at hp; cases hp), fun p hp => (by rw [z] at hp; cases hp), fun p hp => (by rw [z] at hp; cases hp)⟩
theorem law_run (kin : K.In s₁.heap) (hns : s₁.heap.Ns mainGlobals mg) (hb : s₁.heap.Ns builtinsNs mb) (hbb : ∀ x : Str, x ≠ "__name__" → mb x = bootBuiltins x) (hlim : s₁.heap.NoLimit) (hg : s₁.gens = #[]) (ht : TabsIn K mg s₁.heap)
    (hbm : tabs3 K mg ≠ [] → ∃ (bm : Addr) (ob : Obj), mg "__builtins__" = some (.ref bm) ∧ bm ≠ builtinsNs ∧ s₁.heap.get? bm = some ob ∧ ob.cls = .type "module" ∧ ob.dict = some builtinsNs ∧ ob.data = .plain)
    (ha : s₁.heap.get? a = some { cls := .type "list", data := .seq vs.toArray }) (hi : IntsAre vs ns) (hl : ns.length ≤ sizeLine) (hr : Room k callerA)
    (hm : ∃ mm, s₁.heap.Ns sysModules mm) (F : ∀ base : Heap, (∃ mm, base.Ns sysModules mm) → (∀ e ∈ tabs3 K mg, LamX.TabB base mg e.1 e.2.1) → FnOkG P w K mg base CX0 k fa fd [x] sp) (hbind : ∀ (s : Shared) (u : Value), BindsTo s fd ⟨[u], []⟩ [(x, u)])
    (hsp : ∀ H : Hp, TbOk K mg H → SqL K H a (ns.map V.int) → sp [.ref a] H (fun v _ => v = .bl true) fun _ _ _ => False) :
    codeAny (model P w) callerA (.call (.ref fa) ⟨[.ref a], []⟩) (fun r s' => r = .ok (.ret (.bool true)) ∧ OldK s₁.heap s'.heap ∧ s'.os = s₁.os ∧ AllBare s'.gens) s₁ := by
  generalize ePs : (tabs3 K mg).map (·.2.1) = Ps
  generalize eH : startH Ps (scrH K a vs ns) = H
  have at' : ∀ {b u}, H b = some u → (b ∈ Ps ∧ u = .tbl #[]) ∨ (b ∉ Ps ∧ b = a ∧ K.lookup a = none ∧ u = .frz { cls := .type "list", data := .seq vs.toArray } (.lst (ns.map V.int))) := fun h => by subst eH; exact start_at h
  have isP : ∀ {b}, b ∈ Ps → ∃ e ∈ tabs3 K mg, e.2.1 = b := fun hb => by subst ePs; exact List.mem_map.mp hb
  have tabP : ∀ {b}, b ∈ Ps → s₁.heap.get? b = some { cls := .none, data := .fields #[] } := fun hb => by
    obtain ⟨e, he, rfl⟩ := isP hb
    exact ht.em e he
  have aP : a ∉ Ps := fun z => by
    have := tabP z
    rw [ha] at this
    cases congrArg Obj.data (Option.some.inj this)
  have len := hi.length
  have told : SqL K H a (ns.map V.int) := by
    cases e : K.lookup a with
    | none =>
      refine .inl (.inr ⟨{ cls := .type "list", data := .seq vs.toArray }, ?_⟩)
      subst eH
      exact (if_neg aP).trans (if_pos ⟨rfl, e⟩)
    | some o =>
      have q := kin a o e
      rw [ha] at q
      cases q
      exact .inr ⟨_, vs.toArray, _, e, rfl, rfl, rfl, by rw [List.size_toArray, len]; exact hl, by simpa using vals_ints hi⟩
  have tbl : ∀ {b}, b ∈ Ps → H b = some (.tbl #[]) := fun hb => by subst eH; exact if_pos hb
  have tb : TbOk K mg H := fun p hp => by
    obtain ⟨e, he, rfl⟩ := List.mem_map.mp hp
    exact .nil (tbl (by subst ePs; exact List.mem_map.mpr ⟨e, he, rfl⟩))
  have hok : HOk P w H s₁.heap := fun b u z => by
    rcases at' z with ⟨hb, rfl⟩ | ⟨_, rfl, _, rfl⟩
    · exact tabP hb
    · exact ⟨ha, by rw [List.length_map]; exact hl, vs, _, vals_ints hi, ha⟩
  have free : ∀ {b : Addr} {o : Obj}, s₁.heap.get? b = some o → (∀ vs n, o.data ≠ .seq vs n) → o.data ≠ .fields #[] → H b = none := fun {b o} e h1 h2 => by
    cases q : H b with
    | none => rfl
    | some u =>
      rcases at' q with ⟨hb, _⟩ | ⟨_, rfl, _, _⟩
      · have := tabP hb
        rw [e] at this
        cases this
        exact absurd rfl h2
      · rw [ha] at e
        cases e
        exact absurd rfl (h1 _ _)
  have dicts : ∀ {b : Addr} {m : Str → Option Value}, s₁.heap.Ns b m → (hidT s₁.heap H).Ns b m := by
    rintro b m ⟨o, es, ep, e, d, r⟩
    exact ⟨o, es, ep, hidT_get e (free e (fun _ _ z => by rw [d] at z; cases z) fun z => by rw [d] at z; cases z), d, r⟩
  have kin' : K.In (hidT s₁.heap H) := fun b o e => hidT_get (kin b o e) (by
    cases q : H b with
    | none => rfl
    | some u =>
      rcases at' q with ⟨hb, _⟩ | ⟨_, rfl, n, _⟩
      · obtain ⟨z, hz, rfl⟩ := isP hb
        rw [ht.no z hz] at e
        cases e
      · rw [n] at e
        cases e)
  obtain ⟨mc, l1, l2⟩ := hlim
  obtain ⟨mm, hm⟩ := hm
  have env : Env0 P w K mg (hidT s₁.heap H) callerA [] s₁ H :=
    { frames := rfl, mod := ⟨kin', dicts hns, ⟨mb, dicts hb, hbb⟩, ⟨mc, dicts l1, l2⟩⟩, bs := fun _ _ e => of_hidT e, bsz := Nat.le_of_eq (hidT_size _ _), funs := trivial, frf := (fun b h => by have h : b ∈ ([] : List Addr) := h; cases h), hok := hok, bare := .of_eq hg }
  have tabB : ∀ e ∈ tabs3 K mg, LamX.TabB (hidT s₁.heap H) mg e.1 e.2.1 := fun e he => by
    have hP := ht.em e he
    obtain ⟨bm, ob, b1, b2, b3, b4, b5, b6⟩ := hbm (by intro z; rw [z] at he; cases he)
    have gne : ∀ {x : Addr} {o : Obj}, s₁.heap.get? x = some o → (∀ es ep, o.data ≠ .dict es ep) → x ≠ mainGlobals := fun h1 h2 z => by
      obtain ⟨o, es, ep, e1, e2, _⟩ := hns
      rw [z, e1] at h1
      cases h1
      exact h2 _ _ e2
    refine ⟨?_, ⟨bm, ob, b1, b2, gne b3 (fun _ _ z => by rw [b6] at z; cases z), fun z => ?_, hidT_get b3 (free b3 (fun _ _ z => by rw [b6] at z; cases z) fun z => by rw [b6] at z; cases z), b4, b5, b6⟩, (gne hP fun _ _ z => by cases z).symm⟩
    · obtain ⟨o, us, file, tf, flags, tg, inF, text, tt, e1, r1, r2, r3, rr⟩ := ht.hd e he
      exact ⟨o, us, file, tf, flags, tg, inF, text, tt, hidT_get e1 (free e1 (fun _ _ z => by rw [r2] at z; cases z) fun z => by rw [r2] at z; cases z; simp at r3), r1, r2, r3, rr⟩
    · rw [z, hP] at b3
      cases b3
      cases b6
  refine codeAny_mono ((F _ ⟨mm, dicts hm⟩ tabB).run callerA [] s₁ H ⟨[.ref a], []⟩ [.ref a] [.ref a] _ _ hr rfl env (hbind s₁ (.ref a)) (.cons rfl .nil) (hsp H tb told)) fun r s' out => ?_
  match r, out with
  | .error e, out => exact out.elim
  | .ok .next, out => exact out.elim
  | .ok .brk, out => exact out.elim
  | .ok .cont, out => exact out.elim
  | .ok (.ret u), ⟨v, H', os, bare, un, hok', rv, q⟩ =>
    have q : v = .bl true := q
    subst q
    obtain rfl : u = Value.bool true := rv
    have keep : ∀ b o, b ∉ Ps → s₁.heap.get? b = some o → s'.heap.get? b = some o := fun b o nb e => by
      cases z : H b with
      | none => exact un.keep b o e z (fun h => by have h : b ∈ ([] : List Addr) := h; cases h) (fun h => by cases h)
      | some u =>
        rcases at' z with ⟨hb, _⟩ | ⟨_, rfl, _, rfl⟩
        · exact absurd hb nb
        · have := (hok' _ _ (un.frzs _ _ _ z)).1
          rw [ha] at e
          cases e
          exact this
    have grow : ∀ b, b ∈ Ps → ∃ more : Array Value, s'.heap.get? b = some { cls := .none, data := .fields more } := fun b hb => by
      obtain ⟨more, z⟩ := un.tbls b #[] (tbl hb)
      exact ⟨_, hok' b _ z⟩
    refine ⟨rfl, ⟨fun b o e => ?_, fun b o e => ?_⟩, os, bare⟩
    · by_cases hb : b ∈ Ps
      · have hP := tabP hb
        obtain ⟨z, hz, rfl⟩ := isP hb
        obtain ⟨more, hmore⟩ := grow _ hb
        rw [hP] at e
        cases e
        exact .inr (.inl ⟨((ht.hd z hz).tab hP).isCodeTable, rfl, #[], more, rfl, by rw [Array.empty_append]; exact hmore⟩)
      · exact .inl (keep b o hb e)
    · by_cases hb : b ∈ Ps
      · exact let ⟨more, hmore⟩ := grow b hb; ⟨_, hmore⟩
      · exact ⟨o, keep b o hb e⟩
end
theorem walk_guard {l : PySem.W.OpenLaw} {k : Nat} {q : Program} {loose : List Str} {XP : (Str → Option Value) → Heap → Prop} {YP : World → Heap → Prop} {d : DefRec} {K : Params → PySem.W.Frag}
    (hn : l.most = some 63) (hdf : d.params.defaults = []) (hr : Room k callerA) (hq : importsNone q = true) (hY : ∀ (w : World) (h : Heap), YP w h → (K w.params).In h) (hrec : ∀ x ∈ lamDefs, ((recsOf q).any fun e => e.name == x) = true)
    (F : ∀ (w : World) (mg : Str → Option Value) (fa : Addr) (h : Heap), (K w.params).In h → h.Ns mainGlobals mg → mg d.name = some (.ref fa) →
      ∃ fd : FuncData, (∀ e ∈ tabs3 (K w.params) mg, (K w.params).lookup e.2.1 = none) ∧ (∀ (s : Shared) (u : Value), BindsTo s fd ⟨[u], []⟩ [("_law_script", u)]) ∧
        ∀ base : Heap, (∃ mm, base.Ns sysModules mm) → (∀ e ∈ tabs3 (K w.params) mg, LamX.TabB base mg e.1 e.2.1) → FnOkG l.prog w (K w.params) mg base CX0 k fa fd ["_law_script"] (spLawT (K w.params) mg)) :
    PySem.W.WalkO q loose XP YP l.row.toRowW d [] (fun f vs => PySem.call f vs) :=
  Att.attach_callB hn hdf fun w s₀ s₁ mg mb fa o pm cd doc a vs ns G Y ho hd hcd hmg hobj hints hlen _ hg => by
    have KX := hY w _ Y
    obtain ⟨fd, hno, hb, hF⟩ := F w mg fa _ KX G.T.g hmg
    have ht : ∀ e ∈ tabs3 (K w.params) mg, PySem.W.CodeHd s₁.heap e.1 e.2.1 ∧ s₁.heap.get? e.2.1 = some { cls := .none, data := .fields #[] } := fun e he => by
      obtain ⟨x, hx, hxe⟩ := List.mem_filterMap.mp he
      obtain ⟨dL, hm, hn1⟩ := List.any_eq_true.mp (hrec x hx)
      obtain ⟨a', o', fd', c', P', h1, h2, h3, h4, h5, h6⟩ := G.T.tab dL hm
      rw [show dL.name = x from beq_iff_eq.mp hn1] at h1
      unfold tabOf at hxe
      rw [h1] at hxe
      dsimp only at hxe
      split at hxe
      · rename_i o2 k1
        have g1 := KX _ _ k1
        rw [h2] at g1
        cases g1
        rw [h3] at hxe
        dsimp only at hxe
        rw [h4] at hxe
        dsimp only at hxe
        split at hxe
        · rename_i oc k2
          have g2 := KX _ _ k2
          have h6' := h6
          obtain ⟨⟨oc', vc, e1, _, e3, e4⟩, hP⟩ := h6'
          rw [g2] at e1
          cases e1
          rw [e3] at hxe
          dsimp only at hxe
          rw [e4] at hxe
          cases hxe
          exact ⟨.of h5 h6, hP⟩
        · cases hxe
      · cases hxe
    exact law_run KX G.T.g G.T.b G.T.builtins G.T.nolimit hg ⟨fun e he => (ht e he).2, hno, fun e he => (ht e he).1⟩ (fun _ => G.T.bmain) hobj hints (szle (by omega)) hr (let ⟨mm, h, _⟩ := (G.T.seer hq).mods; ⟨mm, h⟩) hF hb fun H hT hS => ⟨⟨a, ns, rfl, hS, hlen, fun _ => rfl⟩, hT⟩
/-! ### repr of things that hold empty dicts -/
mutual
def shE : T → Bool
  | .non => true
  | .bl _ => true
  | .int _ => true
  | .str _ => true
  | .lst ts => shEs ts
  | .tup ts => shEs ts
  | .dic ks ts => ks.isEmpty && ts.isEmpty
  | _ => false
def shEs : List T → Bool
  | [] => true
  | t :: ts => shE t && shEs ts
end
/-- the modules' dict has its place -/
def SmH (h : Heap) : Prop := ∃ o es ep, h.get? sysModules = some o ∧ o.data = .dict es ep
theorem SmH.ne {h : Heap} (m : SmH h) {a : Addr} {o : Obj} {its : Array Value} {n : Nat} (e : h.get? a = some o) (d : o.data = .seq its n) : sysModules ≠ a := by
  rintro rfl
  obtain ⟨o', es, ep, e', d'⟩ := m
  rw [e] at e'
  cases e'
  rw [d] at d'
  cases d'
section
variable {X : Cx} {M : Mo} {Z H : Hp} {pins : List (Addr × Obj)} {σ : L2.St} {s : Shared}
mutual
theorem rdx (I : Inv X pins σ H s) (sm : SmH s.heap) (l : Same Z H) (hK : M.K = X.K) : ∀ (t : T) (v : V) (u : Value), Rp M Z t v → shE t = true → RelV v u → ∃ as, Reads s.heap u t.toD as ∧ sysModules ∉ as
  | .non, _, _, r, _, q => by
    cases r
    cases q
    exact ⟨_, .none, by simp⟩
  | .bl b, _, _, r, _, q => by
    cases r
    cases q
    exact ⟨_, .bool b, by simp⟩
  | .int i, _, _, r, _, q => by
    cases r
    obtain ⟨t, rfl⟩ := q
    exact ⟨_, .int i t, by simp⟩
  | .str z, _, _, r, _, q => by
    cases r
    obtain ⟨t, rfl⟩ := q
    exact ⟨_, .str z t, by simp⟩
  | .lst ts, _, _, r, hs, q => by
    cases r with
    | lst g n rr =>
      cases q
      obtain ⟨its, rv, ⟨o, n', ho, hc, _, hd⟩, _⟩ := I.list (.inl (.inl (l _ _ g)))
      obtain ⟨as, hr, hn⟩ := rdxs I sm l hK ts _ its rr hs rv
      refine ⟨_, .list ho hc hd hr, fun hm => ?_⟩
      rcases List.mem_cons.mp hm with e | hm
      · exact sm.ne ho hd e
      · exact hn hm
  | .tup ts, _, _, r, hs, q => by
    cases r with
    | tup g n rr =>
      cases q
      obtain ⟨its, rv, ⟨o, ho, hc, n', hd⟩, _⟩ := I.tuple (.inl (.inl (l _ _ g)))
      obtain ⟨as, hr, hn⟩ := rdxs I sm l hK ts _ its rr hs rv
      exact ⟨_, .tuple ho hc hd hr, hn⟩
  | .dic ks ts, _, _, r, hs, q => by
    cases r with
    | dic g n rr =>
      cases q
      have hs : (ks.isEmpty && ts.isEmpty) = true := hs
      rw [Bool.and_eq_true, List.isEmpty_iff, List.isEmpty_iff] at hs
      obtain ⟨rfl, rfl⟩ := hs
      obtain ⟨_, hne, kv, r1, o, es, ep, ho, hx, hd, _, hp, _⟩ := dk_of I.hok (l _ _ g)
      cases r1
      have e0 : es.toList = [] := by
        generalize es.toList = L at hp ⊢
        cases hp
        rfl
      have r0 : ReadsAll s.heap (es.toList.map (·.key)) (([] : List (PyData × PyData)).map (·.1)) [] := by rw [e0]; exact .nil
      have r2 : ReadsAll s.heap (es.toList.map (·.val)) (([] : List (PyData × PyData)).map (·.2)) [] := by rw [e0]; exact .nil
      refine ⟨_, .dict ho hx.1 hd r0 r2, fun hm => ?_⟩
      rcases List.mem_cons.mp hm with e | hm
      · rw [← e] at hne
        exact absurd hne (by decide)
      · cases hm
  | .ty _, _, _, _, hs, _ => by cases hs
  | .ins _ _, _, _, _, hs, _ => by cases hs
  | .err _ _, _, _, _, hs, _ => by cases hs
  | .drw, _, _, _, hs, _ => by cases hs
  | .scr _, _, _, _, hs, _ => by cases hs
  | .ob _, _, _, _, hs, _ => by cases hs
theorem rdxs (I : Inv X pins σ H s) (sm : SmH s.heap) (l : Same Z H) (hK : M.K = X.K) : ∀ (ts : List T) (vs : List V) (us : List Value), RpL M Z ts vs → shEs ts = true → Vals vs us → ∃ as, ReadsAll s.heap us (toDs ts) as ∧ sysModules ∉ as
  | [], _, _, r, _, q => by
    cases r
    cases q
    exact ⟨_, .nil, by simp⟩
  | t :: ts, _, _, r, hs, q => by
    cases r with
    | cons r1 r2 =>
      cases q with
      | cons q1 q2 =>
        have hs : (shE t && shEs ts) = true := hs
        rw [Bool.and_eq_true] at hs
        obtain ⟨as, h1, n1⟩ := rdx I sm l hK t _ _ r1 hs.1 q1
        obtain ⟨bs, h2, n2⟩ := rdxs I sm l hK ts _ _ r2 hs.2 q2
        refine ⟨_, .cons h1 h2, fun hm => ?_⟩
        rcases List.mem_append.mp hm with h | h
        · exact n1 h
        · exact n2 h
end
end
/-! ### repr(x) -/
@[irreducible] def fRep : FN := fun ts P => match ts with
  | [t] => (shE t = true ∧ t.toD.depth ≤ 64 ∧ t.toD.showable = true ∧ t.toD.shown.length ≤ sizeLine) ∧ P (.str t.toD.shown)
  | _ => False
abbrev rRepr (M : Mo) : List V → Hp → VK → Prop := fun xs H Q => ∃ v Z t, xs = [v] ∧ Same Z H ∧ Rp M Z t v ∧ shE t = true ∧ t.toD.depth ≤ 64 ∧ t.toD.showable = true ∧ t.toD.shown.length ≤ sizeLine ∧ Q (.str t.toD.shown) H
theorem l_rep {X : Cx} {M : Mo} {j : Nat} (hK : X.K = M.K) (hg : X.A.guards = some []) (hr : Room j X.A) (hm : ∃ mm, X.base.Ns sysModules mm) : CallR X (.builtin "repr") (rRepr M) := by
  rintro pins s σ H xs us Q I r ⟨v, Z, t, rfl, l, rp, sh, dp, sho, siz, q⟩
  obtain ⟨u, rfl, ru⟩ := vals1 r
  obtain ⟨mm, o, es, ep, e, d, _⟩ := hm
  have sm : SmH s.heap := ⟨o, es, ep, (I.bs _ _ e).1, d⟩
  obtain ⟨as, rd, nm⟩ := rdx I sm l hK.symm t v u rp sh ru
  have hu : X.A.units + (t.toD.depth + 1) < cLine := by
    have := hr.un
    omega
  cases rp with
  | non => obtain rfl : u = Value.none := ru; exact PySem.P.repr_of_none ⟨.str _, H, I.tok _, ⟨_, rfl⟩, q⟩
  | bl b => obtain rfl : u = Value.bool b := ru; exact PySem.P.repr_of_bool ⟨.str _, H, I.tok _, ⟨_, rfl⟩, q⟩
  | int i => obtain ⟨t, rfl⟩ := ru; exact PySem.P.repr_of_int (of_decide_eq_true sho) ⟨.str _, H, I.tok _, ⟨_, rfl⟩, q⟩
  | str z => obtain ⟨t, rfl⟩ := ru; exact PySem.P.repr_of_str ⟨.str _, H, I.tok _, ⟨_, rfl⟩, q⟩ siz
  | lst g n rr => obtain rfl := (show u = Value.ref _ from ru); exact PySem.repr_of_reads' rd sho (fun _ => nm) hg hu (fun _ _ e => e) (fun h' u tk hk => ⟨.str _, H, I.kept hk, ⟨_, rfl⟩, q⟩) siz
  | tup g n rr => obtain rfl := (show u = Value.ref _ from ru); exact PySem.repr_of_reads' rd sho (fun _ => nm) hg hu (fun _ _ e => e) (fun h' u tk hk => ⟨.str _, H, I.kept hk, ⟨_, rfl⟩, q⟩) siz
  | dic g n rr => obtain rfl := (show u = Value.ref _ from ru); exact PySem.repr_of_reads' rd sho (fun _ => nm) hg hu (fun _ _ e => e) (fun h' u tk hk => ⟨.str _, H, I.kept hk, ⟨_, rfl⟩, q⟩) siz
  | _ => cases sh
theorem L_rep {M : Mo} : CaL (rRepr M) M fRep := by
  intro Z H vs ts P Q l r h k
  unfold fRep at h
  split at h
  · obtain ⟨⟨h0, h1, h2, h3⟩, h⟩ := h
    cases r with
    | cons r rr =>
      cases rr
      exact ⟨_, Z, _, rfl, l, r, h0, h1, h2, h3, (k _ h).same l (.str h3)⟩
  · exact h.elim
/-! ### the law itself -/
section
variable {P : Program} {w : World} {K : PySem.W.Frag} {mg : Str → Option Value} {base : Heap}
theorem law3G {st st0 : Stmt} {rest : List Stmt} {f : Addr} {fd : FuncData} {N : List Str} {k : Nat} {W : XK3 → TS3} (F : Fun K "law" "law" st f fd) (S : FnScope N ["_law_script"] (defScope st)) (hbody : defBody st = st0 :: rest) (hN : 1 < N.length)
    (h0 : ∀ (cdv : Value) (A : Around) (outer : List Env) (s : Shared) (H : Hp) (E : XK), Room k (A.deeper (envOfC "law" (defScope st) s.heap.objs.size f cdv)) →
      PS (cxOf (L2.CX P w) P w K mg base N "law" (defScope st) f cdv A outer s H E) st0 (tAsg (tCall (spBegin K) [] E0 (tCons (tVar 0) tNil)) (gName 1)))
    (hb : ∀ (cdv : Value) (A : Around) (outer : List Env) (s : Shared) (H : Hp) (E : XK) (G : Gh) (E3 : XK3), Room k (A.deeper (envOfC "law" (defScope st) s.heap.objs.size f cdv)) → A.guards = some [] → fd.code = cdv → (G.M = ⟨K, mg, G.M.D⟩ ∧ G.q = none) →
      Lets (cxOf (L2.CX P w) P w K mg base N "law" (defScope st) f cdv A outer s H E) G E3 E → PSs (cxOf (L2.CX P w) P w K mg base N "law" (defScope st) f cdv A outer s H E) rest (upS G (W E3)))
    (hW : ∀ n ≤ 63, W E03 lawD (lawS n N.length)) : FnOkG P w K mg base CX0 (k + 1) f fd ["_law_script"] (spLawT K mg) := by
  refine FnOkG.noX (sp := spLawT K mg) (ok_guard F S (fun vs H Q E h => ?_) (fun cdv A outer s H vs Q E hr hgd hcd h => ?_))
  · obtain ⟨⟨a, ns, rfl, _⟩, _⟩ := h
    rfl
  · obtain ⟨⟨a, ns, rfl, hS, hlen, q⟩, hT⟩ := h
    have L : ∀ G : Gh, Lets (cxOf (L2.CX P w) P w K mg base N "law" (defScope st) f cdv A outer s H E) G E03 E := fun G => ⟨passes_call (takes_of rfl rfl rfl rfl) fun _ _ _ _ h => h, fun _ _ h => h.elim, takes_of rfl rfl rfl rfl⟩
    rw [hbody]
    refine ⟨_, pss_cons (h0 cdv A outer s H E hr) (u := fun D σ H1 => ∃ G : Gh, (G.M = ⟨K, mg, G.M.D⟩ ∧ G.q = none) ∧ upS G (W E03) D σ H1) ⟨fun pins s' σ H1 D I ⟨G, hG, h⟩ => (hb cdv A outer s H E G E03 hr hgd hcd hG (L G)).run pins s' σ H1 D I h⟩, ?_⟩
    refine ⟨.ref a, rfl, a, ns, rfl, hS, hlen, fun d l c H1 hd hl hc D1 k1 => ?_⟩
    let Z : Hp := fun b => if b = a then noT H b else none
    have zle : Same Z H1 := fun b o e => by
      by_cases hb : b = a
      · have e : (if b = a then noT H b else none) = some o := e
        rw [if_pos hb] at e
        exact k1 b o (noT_some e).1 notnil
      · have e : (if b = a then noT H b else none) = some o := e
        rw [if_neg hb] at e
        cases e
    have zn : ∀ x, H x = none → Z x = none := fun x hx => by
      show (if x = a then noT H x else none) = none
      split
      · exact noT_none hx
      · rfl
    have za : Z a = noT H a := if_pos rfl
    have zt : ∀ b o, Z b = some o → NT o := fun b o e => by
      have e : (if b = a then noT H b else none) = some o := e
      split at e
      · exact (noT_some e).2
      · cases e
    have hSZ : SqL K Z a (ns.map V.int) := by
      rcases hS with (h | ⟨o, h⟩) | h
      · exact .inl (.inl (za.trans (noT_of h trivial)))
      · exact .inl (.inr ⟨o, za.trans (noT_of h trivial)⟩)
      · exact .inr h
    have hlen2 : (ns.map V.int).length = ns.length := List.length_map ..
    have fm := fm_start (M := ⟨K, mg, some (d, l, c)⟩) (ts := [.scr (ns.map V.int).length]) (vs := [.ref a]) N ⟨zle, TbOk.st hT fun b o e _ => k1 b o e notnil, zt⟩ ⟨D1, zn d hd, zn l hl, zn c hc⟩ (.cons (.scr hSZ) .nil)
    have fm2 := fm.setSh (i := 1) (by rw [← fm.len]; unfold L2.start; rw [List.length_append, List.length_map, List.length_replicate]; simp only [List.length_cons, List.length_nil]; omega) (Rp.drw (M := ⟨K, mg, some (d, l, c)⟩) rfl)
    rw [hlen2] at fm2
    refine ⟨⟨⟨K, mg, some (d, l, c)⟩, noT H1, Z, none⟩, ⟨rfl, rfl⟩, _, Z, _, lawD, fm2, hW ns.length hlen, ⟨fun _ h => h.elim, fun t ht v Z' H' e c r => ?_, fun _ h => h.elim, fun _ h => h.elim, fun _ _ h => h.elim⟩⟩
    have ht : t = .bl true := ht
    subst ht
    cases r
    exact q H'
end
end G69
namespace G69
open PySem PySem.Spec PyProof.Rows L2
/-! ### instances beside other things -/
def kinds7 : List String := ["NoneType", "bool", "int", "str", "list", "tuple", "dict"]
structure Nf (K : PySem.W.Frag) (mg : Str → Option Value) (c : Nat) : Prop where
  sub : ∀ C, mg (cn c) = some (.ref C) → ∀ ty ∈ kinds7, PySem.W.subIn K (.type ty) (.ref C) = some false
  has : ∀ C, mg (cn c) = some (.ref C) → PySem.W.hasDictIn K C = true ∧ PySem.W.typeIn K (.ref C) = some (.type "type")
theorem tyT_in {t : T} {ty : String} (h : tyT t = some ty) : ty ∈ kinds7 := by
  cases t <;> first | (cases h; decide) | cases h
theorem Nf.not {K : PySem.W.Frag} {mg : Str → Option Value} {c : Nat} (N : Nf K mg c) {C : Addr} (g : mg (cn c) = some (.ref C)) {ty : String} (h : ty ∈ kinds7) : PySem.W.notFirst K C (.type ty) = true := by
  unfold PySem.W.notFirst
  rw [N.sub C g ty h, Bool.or_eq_true]
  exact .inr (by rfl)
theorem Nf.kit {K : PySem.W.Frag} {mg : Str → Option Value} {c : Nat} (N : Nf K mg c) {C : Addr} (g : mg (cn c) = some (.ref C)) {ty : String} (h : ty ∈ kinds7) : PySem.W.kitOne K (.type ty) (.ref C) = some false := by
  obtain ⟨h1, h2⟩ := N.has C g
  obtain ⟨cd, h1, _⟩ := PySem.W.any_some h1
  unfold PySem.W.kitOne
  rw [if_neg (by intro z; exact absurd (beq_iff_eq.mp z) (by intro q; cases q))]
  show (if ((PySem.W.clsIn K C).isSome && PySem.W.typeIn K (.ref C) == some (.type "type")) = true then PySem.W.subIn K (.type ty) (.ref C) else none) = some false
  rw [h1, h2, if_pos (by rfl)]
  exact N.sub C g ty h
theorem nf_mk {K : PySem.W.Frag} {mg : Str → Option Value} {c : Nat} {C : Addr} (g : mg (cn c) = some (.ref C)) (h : ∀ ty ∈ kinds7, PySem.W.subIn K (.type ty) (.ref C) = some false) (hd : PySem.W.hasDictIn K C = true) (ht : PySem.W.typeIn K (.ref C) = some (.type "type")) : Nf K mg c where
  sub := fun C' h' ty hty => by
    have e := cfSame g h'
    subst e
    exact h ty hty
  has := fun C' h' => by
    have e := cfSame g h'
    subst e
    exact ⟨hd, ht⟩
/-- isinstance(x, C) of anything -/
def fIsA (c : Nat) : F1 := fun x P => match tyT x with
  | some _ => P (.bl false)
  | none => fIsO c x P
/-- x == y by the own __eq__, y anything -/
def fEqX (c : Nat) (sp : Sp3) (neg : Bool) : F2 := fun x y P => match tyT y with
  | some _ => (match x with
    | .ins c1 ts => (match Nat.beq c c1 with
      | true => sp [.ins c1 ts, y] (fun r => match r with
        | .bl b => P (.bl (xor neg b))
        | _ => False) E03
      | false => False)
    | _ => False)
  | none => fEqO c sp neg x y P
def tEqX (c : Nat) (sp : Sp3) (neg : Bool) (ta tb : TE3) : TE3 := fun s Q => ta s fun x s1 => tb s1 fun y s2 => fEqX c sp neg x y fun t => Q t s2
section
variable {X : Cx} {G : Gh} {a b : Expr} {ta tb : TE3} {c k j : Nat} {ps : List Str} {sp : Sp3} {pos p p2 : Pos}
theorem q_isA {x : Str} (hM : G.M = ⟨X.K, X.mg, G.M.D⟩) (N : Nf X.K X.mg c) (O : Oc X.K X.mg c) (F : Cf X.K X.mg c) (hx : cn c = x) (hg : Gl X "isinstance") (hm : X.mg "isinstance" = none) (hgx : Gl X x) (he : PE X a (up G ta))
    (hst : starEach [a, .Name x p2] X.env = (false, eval a X.env) :: starEach [.Name x p2] X.env := by rfl) (hst2 : starEach [.Name x p2] X.env = (false, eval (.Name x p2) X.env) :: starEach [] X.env := by rfl) (hpl : (backTo pos (starEach [.Name x p2] X.env)).any (·.1) = false := by rfl) (hd : (x == ("__debug__" : Str)) = false := by decide) :
    PE X (.Call (.Name "isinstance" p) [a, .Name x p2] [] pos) (up G (tUn3 (fIsA c) ta)) := by
  obtain ⟨C, g⟩ := F.ex
  refine PE.imp (pe_callB call_isi hg hm (by decide +kernel) (pa_cons he (pa_cons (pe_glob (v := .ref C) hgx (hx ▸ g) rfl hd) pa_nil hst2) hst) (by decide) (by decide) hst hpl) fun σ H Q ⟨px, Z, s, Q3, fm, h, kx⟩ => ⟨px, Z, s, _, fm, h, fun t s1 hf v Z1 H1 e1 f1 r1 => ?_⟩
  unfold fIsA at hf
  split at hf
  · rename_i ty hty
    have h1 := rp_ty f1.le r1 hty
    rw [show G.M.K = X.K by rw [hM]] at h1
    exact ⟨v, _, _, _, false, rfl, .own C, h1, N.kit g (tyT_in hty), kx _ s1 hf _ Z1 H1 e1 f1 (.bl _)⟩
  · unfold fIsO at hf
    split at hf
    · split at hf
      · rename_i hb
        have ec := Nat.eq_of_beq_eq_true hb
        subst ec
        cases r1 with
        | ins g1 g2 g3 q1 =>
          rw [hM] at g1
          have eC := cfSame g g1
          subst eC
          exact ⟨_, _, .ref C, _, true, rfl, .own C, (O.ow C g).ty (F.cl C g) (f1.le _ _ g2), kit_self, kx _ s1 hf _ Z1 H1 e1 f1 (.bl _)⟩
      · exact hf.elim
    · exact hf.elim
theorem up_eqX (hM : G.M = ⟨X.K, X.mg, G.M.D⟩) (N : Nf X.K X.mg c) (O : Oc X.K X.mg c) (F : Cf X.K X.mg c) {C : Addr} (g : X.mg (cn c) = some (.ref C)) {neg : Bool} {σ : L2.St} {H : Hp} {Q : VK} (h : up G (tEqX c sp neg ta tb) σ H Q) :
    tOp (fun x y H Q => ∃ a dx fs t, x = .ref a ∧ H a = some (.ins C dx fs) ∧ TyX X.K H y t ∧ PySem.W.notFirst X.K C t = true ∧ lift X.K X.mg sp [.ref a, y] H (fun v H' => ∃ r, v = .bl r ∧ Q (.bl (xor neg r)) H') E0) (up G ta) (up G tb) σ H Q := by
  obtain ⟨px, Z, s, Q3, fm, h, k⟩ := h
  refine ⟨px, Z, s, _, fm, h, fun x s1 hb1 v Z1 H1 e1 f1 r1 => ⟨px, Z1, s1, _, f1, hb1, fun y s2 hf w Z2 H2 e2 f2 r2 => ?_⟩⟩
  unfold fEqX at hf
  split at hf
  · rename_i ty hty
    split at hf
    · split at hf
      · rename_i hb
        have ec1 := Nat.eq_of_beq_eq_true hb
        subst ec1
        have r1' := r1.mono e2
        have rr : RpL G.M Z2 _ [v, w] := .cons r1' (.cons r2 .nil)
        have h1 := rp_ty f2.le r2 hty
        rw [show G.M.K = X.K by rw [hM]] at h1
        cases r1' with
        | ins g1 g2 g3 q1 =>
          rw [hM] at g1
          have eC := cfSame g g1
          subst eC
          refine ⟨_, _, _, _, rfl, f2.le _ _ g2, h1, N.not g (tyT_in hty), ?_⟩
          refine lift_res hM (f2.toCore.sz hM) f2.dr rr hf fun t ht u Z3 H3 co r3 => ?_
          split at ht
          · cases r3
            exact ⟨_, rfl, k _ s2 ht _ Z3 H3 (e1.trans (e2.trans co.z0)) (f2.call co (fun _ _ q => q) (fun _ _ q => q) fun a h1 h2 => absurd h1 h2) (.bl _)⟩
          · exact ht.elim
      · exact hf.elim
    · exact hf.elim
  · unfold fEqO at hf
    split at hf
    · split at hf
      · rename_i hb
        rw [Bool.and_eq_true] at hb
        have ec1 := Nat.eq_of_beq_eq_true hb.1
        have ec2 := Nat.eq_of_beq_eq_true hb.2
        subst ec1
        subst ec2
        have r1' := r1.mono e2
        have rr : RpL G.M Z2 _ [v, w] := .cons r1' (.cons r2 .nil)
        cases r1' with
        | ins g1 g2 g3 q1 =>
          cases r2 with
          | ins g1' g2' g3' q1' =>
            rw [hM] at g1 g1'
            have eC := cfSame g g1
            have eC' := cfSame g g1'
            subst eC
            subst eC'
            refine ⟨_, _, _, .ref C, rfl, f2.le _ _ g2, (O.ow C g).ty (F.cl C g) (f2.le _ _ g2'), nf_self, ?_⟩
            refine lift_res hM (f2.toCore.sz hM) f2.dr rr hf fun t ht u Z3 H3 co r3 => ?_
            split at ht
            · cases r3
              exact ⟨_, rfl, k _ s2 ht _ Z3 H3 (e1.trans (e2.trans co.z0)) (f2.call co (fun _ _ q => q) (fun _ _ q => q) fun a h1 h2 => absurd h1 h2) (.bl _)⟩
            · exact ht.elim
      · exact hf.elim
    · exact hf.elim
theorem q_eqX (hM : G.M = ⟨X.K, X.mg, G.M.D⟩) (N : Nf X.K X.mg c) (O : Oc X.K X.mg c) (M : Mt3 X.prog X.w X.K X.mg X.base c "__eq__" ps k sp) (hr : Room j X.A) (hj : k + 1 ≤ j) (ha : PE X a (up G ta)) (hb : PE X b (up G tb)) (hm : behindInMarks .Eq b = false) :
    PE X (.Compare a [.Eq] [b] pos) (up G (tEqX c sp false ta tb)) := by
  obtain ⟨C, f, fd, g, F, hm', hbd, hf⟩ := M.ex
  refine PE.imp (pe_cmpR (op_eqO (C := C) (sp := fun vs H Q _ => lift X.K X.mg sp vs H Q E0) ⟨f, fd, FnOk.to0 F, hm', hbd, hf⟩ hr hj) ha hb hm) fun σ H Q h => ?_
  have := up_eqX hM N O M.cf g h
  simp only [false_xor'] at this
  exact this
theorem q_neX (hM : G.M = ⟨X.K, X.mg, G.M.D⟩) (N : Nf X.K X.mg c) (O : Oc X.K X.mg c) (M : Mt3 X.prog X.w X.K X.mg X.base c "__eq__" ps k sp) (hr : Room j X.A) (hj : k + 1 ≤ j) (ha : PE X a (up G ta)) (hb : PE X b (up G tb)) (hm : behindInMarks .NotEq b = false) :
    PE X (.Compare a [.NotEq] [b] pos) (up G (tEqX c sp true ta tb)) := by
  obtain ⟨C, f, fd, g, F, hm', hbd, hf⟩ := M.ex
  refine PE.imp (pe_cmpR (op_neO (C := C) (sp := fun vs H Q _ => lift X.K X.mg sp vs H Q E0) ⟨f, fd, FnOk.to0 F, hm', hbd, hf⟩ (O.ow C g).ne (O.ow C g).hm hr hj) ha hb hm) fun σ H Q h => ?_
  have := up_eqX hM N O M.cf g h
  simp only [true_xor'] at this
  exact this
theorem q_teqX (hM : G.M = ⟨X.K, X.mg, G.M.D⟩) (N : Nf X.K X.mg c) (O : Oc X.K X.mg c) (M : Mt3 X.prog X.w X.K X.mg X.base c "__eq__" ps k sp) (hr : Room j X.A) (hj : k + 1 ≤ j) (ha : PE X a (up G ta)) (hb : PE X b (up G tb)) (hm : behindInMarks .Eq b = false) :
    PT X (.Compare a [.Eq] [b] pos) (upT G (tBl (tEqX c sp false ta tb))) := by
  obtain ⟨C, f, fd, g, F, hm', hbd, hf⟩ := M.ex
  refine PT.imp (pt_cmpR (op_eqO (C := C) (sp := fun vs H Q _ => lift X.K X.mg sp vs H Q E0) ⟨f, fd, FnOk.to0 F, hm', hbd, hf⟩ hr hj) ha hb hm) fun σ H Q h => ?_
  have := up_eqX hM N O M.cf g (up_bl h)
  simp only [false_xor'] at this
  exact this
theorem q_tneX (hM : G.M = ⟨X.K, X.mg, G.M.D⟩) (N : Nf X.K X.mg c) (O : Oc X.K X.mg c) (M : Mt3 X.prog X.w X.K X.mg X.base c "__eq__" ps k sp) (hr : Room j X.A) (hj : k + 1 ≤ j) (ha : PE X a (up G ta)) (hb : PE X b (up G tb)) (hm : behindInMarks .NotEq b = false) :
    PT X (.Compare a [.NotEq] [b] pos) (upT G (tBl (tEqX c sp true ta tb))) := by
  obtain ⟨C, f, fd, g, F, hm', hbd, hf⟩ := M.ex
  refine PT.imp (pt_cmpR (op_neO (C := C) (sp := fun vs H Q _ => lift X.K X.mg sp vs H Q E0) ⟨f, fd, FnOk.to0 F, hm', hbd, hf⟩ (O.ow C g).ne (O.ow C g).hm hr hj) ha hb hm) fun σ H Q h => ?_
  have := up_eqX hM N O M.cf g (up_bl h)
  simp only [true_xor'] at this
  exact this
end
/-! ### C(k = v, ..) within a try -/
section
variable {X : Cx} {G : Gh} {W : WX} {e : Expr} {es : List Expr} {kws : List Keyword} {tA : TA3} {c k j : Nat} {ps ks : List Str} {sp : Sp3} {x : Str} {p pos : Pos}
theorem run_at {CX : CXT} {n : Nat} {f C : Addr} {fd : FuncData} {spv : Sp} {E : XK} {g : List Value → List Value → List Value} {gV : List V → List V → List V} {pins : List (Addr × Obj)} {σ : L2.St} {H : Hp} {s : Shared} {Q : VK} {us ws : List Value} {vs zs : List V}
    (M : Mk X.K C f) (F : FnOk X.prog X.w X.K X.mg X.base CX k f fd ps spv) (hr : Room (k + 1) X.A) (hb : KBn X.K fd ps (n + 1) ks g gV) (hx : PassesAt CX X σ E) (I : Inv X pins σ H s) (r : Vals vs us) (rz : Vals zs ws) (l1 : vs.length = n) (l2 : zs.length = ks.length)
    (h : ∀ x dx, H x = none → H dx = none → dx ≠ x → spv (gV (.ref x :: vs) zs) (upd (upd H dx (.own x)) x (.ins C dx [])) (fun v H2 => v = .non ∧ Q (.ref x) H2) E) :
    wpAny (model X.prog X.w) X.A (call (.ref C) us (ks.zip ws)) (EP X pins σ Q) X.xe s := by
  have J := Inv.made (C := C) I
  have self : Vals (V.ref (s.heap.objs.size + 1) :: vs) (Value.ref (s.heap.objs.size + 1) :: us) := .cons rfl r
  have pre := h (s.heap.objs.size + 1) s.heap.objs.size (I.hok.fresh (Nat.le_succ _)) (I.hok.fresh (Nat.le_refl _)) (Nat.ne_of_lt (Nat.lt_succ_self _))
  have run := F.run _ X.stack _ _ _ _ _ _ E (hr.make C us (ks.zip ws)) (J.env0.make C us (ks.zip ws)) (hb.to _ (Value.ref (s.heap.objs.size + 1) :: us) ws J.kIn (by rw [List.length_cons, ← r.length, l1]) (rz.length.symm.trans l2)) (hb.rel self rz) pre
  refine wpAny_call (make_map (f := f) I.kIn M.makes M.init (beq_iff_eq.mp M.fn) (codeAny_mono run fun out s' post => ?_))
  match out, post with
  | .error err, post => exact hx pins _ _ err s' J post
  | .ok (.ret u), post =>
    obtain ⟨v, H', I', rv, ev, last⟩ := J.after post
    subst ev
    exact ⟨rv, .ref _, H', I', rfl, last⟩
  | .ok .next, post => exact post.elim
  | .ok .brk, post => exact post.elim
  | .ok .cont, post => exact post.elim
def xCalK (n : Nat) (sp : Sp3) (ta : TA3) : TX3 := fun s Q E => ta s fun ts s1 => match lenIs ts n with
  | true => sp ts (fun t => Q t s1) (E s1)
  | false => False
theorem qx_mkK (hM : G.M = ⟨X.K, X.mg, G.M.D⟩) (M : MkK3 X.prog X.w X.K X.mg X.base c ps ks k sp) (hx : cn c = x) (hr : Room j X.A) (hj : k + 1 ≤ j) (hg : Gl X x) (tk : Takes X W) (hkw : PK X kws (upA G tA))
    (hall : (backToKw pos (keywordEach kws X.env)).all (·.1.isSome) = true := by rfl) (hks : (backToKw pos (keywordEach kws X.env)).filterMap (·.1) = ks := by rfl) (hdb : (x == ("__debug__" : Str)) = false := by decide)
    (hpl : ((backTo pos (starEach [] X.env)).any (·.1) || (backToKw pos (keywordEach kws X.env)).any (·.1.isNone)) = false := by rfl) :
    PE X (.Call (.Name x p) [] kws pos) (upX G W (xCalK ks.length sp tA)) := by
  obtain ⟨C, f, fd, g', g, mk, F, b⟩ := M.ex
  refine ⟨fun pins s σ H Q I ⟨px, Z, s3, Q3, E3, fm, h, kk, ox⟩ => ?_⟩
  refine wpAny_Call_Name_kw (ld_glob I hg (hx ▸ g) ?_ hdb)
  refine PySem.W.callWith_KW0 (h₀ := X.base) I.ok.mod.kin mk.kp hall ?_ hpl
  refine thn (hkw.run pos pins s σ H (fun vs H1 => vs.length = ks.length ∧ ∀ y dy, H1 y = none → H1 dy = none → dy ≠ y → liftI X.K X.mg c sp (.ref y :: vs) (upd (upd H1 dy (.own y)) y (.ins C dy [])) (fun v H2 => v = .non ∧ Q (.ref y) H2) (WE W σ)) I
    ⟨px, Z, s3, _, fm, h, fun ts s1 hs vs Z1 H1 e1 f1 r1 => ?_⟩) fun ws s2 ⟨zs, H2, I2, rz, l2, q2⟩ => ⟨I2.kIn, ?_⟩
  · split at hs
    · rename_i hl
      exact ⟨by rw [← r1.len]; exact lenIs_eq hl, fun y dy hy hdy ne => liftI_inX hM g f1 r1 hs (fun c fs he cls od Z' H' e' f' xr => ox s1 c fs he cls od σ Z' H' (e1.trans e') f' xr) (fun t ht v Z' H' e' f' r' => kk t s1 ht v Z' H' (e1.trans e') f' r') hy hdy ne⟩
    · exact hs.elim
  · rw [hks]
    exact run_at (us := []) (vs := []) (n := 0) mk F (hr.mono hj) b (passAt tk σ) I2 .nil rz rfl l2 q2
end
/-! ### C() and C(k = v) with what is left out -/
structure MkP3 (P : Program) (w : World) (K : PySem.W.Frag) (mg : Str → Option Value) (base : Heap) (c : Nat) (ps ks : List Str) (ds : List T) (k : Nat) (sp : Sp3) : Prop where
  ex : ∃ (C f : Addr) (fd : FuncData) (g : List Value → List Value → List Value) (dv : List V), mg (cn c) = some (.ref C) ∧ Mk K C f ∧ FnOk P w K mg base (L2.CX P w) k f fd ps (liftI K mg c sp) ∧ KBn K fd ps 1 ks g (fun vs zs => vs ++ (dv ++ zs)) ∧ ∀ M Z, RpL M Z ds dv
structure Mk03 (P : Program) (w : World) (K : PySem.W.Frag) (mg : Str → Option Value) (base : Heap) (c : Nat) (ps : List Str) (ds : List T) (k : Nat) (sp : Sp3) : Prop where
  ex : ∃ (C f : Addr) (fd : FuncData) (dv : List V) (du : List Value), mg (cn c) = some (.ref C) ∧ Mk K C f ∧ FnOk P w K mg base (L2.CX P w) k f fd ps (liftI K mg c sp) ∧ Binds K fd ps du ∧ Vals dv du ∧ ∀ M Z, RpL M Z ds dv
def tCalP (n : Nat) (ds : List T) (sp : Sp3) (E : XK3) (ta : TA3) : TE3 := fun s Q => ta s fun ts s1 => match lenIs ts n with
  | true => sp (ds ++ ts) (fun t => Q t s1) E
  | false => False
def tCal0 (ds : List T) (sp : Sp3) (E : XK3) : TE3 := fun s Q => sp ds (fun t => Q t s) E
section
variable {X : Cx} {G : Gh} {kws : List Keyword} {tA : TA3} {c k j : Nat} {ps ks : List Str} {ds : List T} {sp : Sp3} {E3 : XK3} {E : XK} {x : Str} {p pos : Pos}
theorem q_mkP (hM : G.M = ⟨X.K, X.mg, G.M.D⟩) (M : MkP3 X.prog X.w X.K X.mg X.base c ps ks ds k sp) (hx : cn c = x) (hr : Room j X.A) (hj : k + 1 ≤ j) (hg : Gl X x) (L : Lets X G E3 E) (hkw : PK X kws (upA G tA))
    (hall : (backToKw pos (keywordEach kws X.env)).all (·.1.isSome) = true := by rfl) (hks : (backToKw pos (keywordEach kws X.env)).filterMap (·.1) = ks := by rfl) (hdb : (x == ("__debug__" : Str)) = false := by decide)
    (hpl : ((backTo pos (starEach [] X.env)).any (·.1) || (backToKw pos (keywordEach kws X.env)).any (·.1.isNone)) = false := by rfl) :
    PE X (.Call (.Name x p) [] kws pos) (up G (tCalP ks.length ds sp E3 tA)) := by
  obtain ⟨C, f, fd, g', dv, g, mk, F, b, rd⟩ := M.ex
  exact PE.imp (pe_makeK0 (ks := ks) mk F (hr.mono hj) hg (hx ▸ g) b L.pass hkw hall hks hdb hpl) fun σ H Q ⟨px, Z, s, Q3, fm, h, k⟩ => ⟨px, Z, s, _, fm, h, fun ts s1 hs vs Z1 H1 e1 f1 r1 => by
    split at hs
    · rename_i hl
      exact ⟨rfl, by rw [← r1.len]; exact lenIs_eq hl, fun y dy hy hdy ne => liftI_in hM g f1 ((rd G.M Z1).app r1) hs L.imp (fun t ht v Z' H' e' f' r' => k t s1 ht v Z' H' (e1.trans e') f' r') hy hdy ne⟩
    · exact hs.elim⟩
theorem q_mk0 (hM : G.M = ⟨X.K, X.mg, G.M.D⟩) (M : Mk03 X.prog X.w X.K X.mg X.base c ps ds k sp) (hx : cn c = x) (hr : Room j X.A) (hj : k + 1 ≤ j) (hg : Gl X x) (L : Lets X G E3 E) (hdb : (x == ("__debug__" : Str)) = false := by decide) :
    PE X (.Call (.Name x p) [] [] pos) (up G (tCal0 ds sp E3)) := by
  obtain ⟨C, f, fd, dv, du, g, mk, F, b, rv, rd⟩ := M.ex
  exact PE.imp (pe_make0 mk F (hr.mono hj) hg (hx ▸ g) b rv L.pass hdb) fun σ H Q ⟨px, Z, s, Q3, fm, h, k⟩ => fun y dy hy hdy ne => liftI_in hM g fm (rd G.M Z) h L.imp (fun t ht v Z' H' e' f' r' => k t s ht v Z' H' e' f' r') hy hdy ne
end
end G69
namespace G69
open PySem PySem.Spec PyProof.Rows L2
/-! ### lambdas: made in a def, handed to another that calls them -/
theorem DrOk.extN {D : Dw} {H H1 Z : Hp} (e : ∀ a o, H a = some o → NT o → H1 a = some o) (d : DrOk D H Z) : DrOk D H1 Z := by
  cases D with
  | none => trivial
  | some y =>
    obtain ⟨d1, l1, c1⟩ := y
    obtain ⟨⟨ls, cs, r, t, m, x⟩, z⟩ := d
    exact ⟨⟨ls, cs, r, t, m, { x with dd := e _ _ x.dd trivial, hl := e _ _ x.hl trivial, hc := e _ _ x.hc trivial }⟩, z⟩
/-- the maker's slots as a lambda sees them -/
structure SlOk (M : Mo) (Z : Hp) (σ : L2.St) (s : S3) : Prop where
  len : σ.length = s.length
  sh : ∀ (i : Nat) (t : T), s[i]? = some (Sl.sh t) → ∃ v, σ[i]? = some (some v) ∧ Rp M Z t v
  ow : ∀ (i : Nat) (t : T), s[i]? ≠ some (Sl.ow t)
theorem SlOk.mono {M : Mo} {Z Z' : Hp} {σ : L2.St} {s : S3} (h : SlOk M Z σ s) (e : Same Z Z') : SlOk M Z' σ s := ⟨h.len, fun i t q => let ⟨v, a, b⟩ := h.sh i t q; ⟨v, a, b.mono e⟩, h.ow⟩
theorem Fm.sl {G : Gh} {px Z H : Hp} {σ : L2.St} {s : S3} (f : Fm G px Z H σ s) : SlOk G.M Z σ (unow s) := ⟨by unfold unow; rw [List.length_map]; exact f.len, fun i t e => f.sh i t (unow_sh e), fun i t e => unow_ow e⟩
/-- the lambda's reading, seen from the one that calls it -/
def lamT (K : PySem.W.Frag) (mg : Str → Option Value) (te : XK3 → TE3) : XK → TE := fun E σ H Q => ∃ D Z s P3 E3, Sz K mg Z H ∧ DrOk D H Z ∧ SlOk ⟨K, mg, D⟩ Z σ s ∧ te E3 s P3 ∧
  (∀ t s', P3 t s' → ∀ v Z' H', Core ⟨⟨K, mg, D⟩, noT H, Z, none⟩ Z' H' → Rp ⟨K, mg, D⟩ Z' t v → Q v H') ∧
  (∀ c fs, E3 c fs → ∀ cls od Z' H', Core ⟨⟨K, mg, D⟩, noT H, Z, none⟩ Z' H' → Xr ⟨K, mg, D⟩ (noT H) Z' H' c fs cls od → E cls od H')
/-- the call of what was handed in (slot 0) -/
def xAct (W : Sp3) : TX3 := fun s Q E => match s[(0 : Nat)]? with
  | some (.sh (.ob v)) => W [.ob v] (fun t => Q t s) (E s)
  | _ => False
/-- f(lambda: ..) -/
def tLamR (spf : Sp3 → Sp3) (te : XK3 → TE3) : TE3 := fun s Q => ∀ v : V, spf (fun ts P E => ts = [.ob v] ∧ te E (unow s) fun t _ => P t) [.ob v] (fun t => Q t s) E03
section
variable {X : Cx} {pins : List (Addr × Obj)} {σ : L2.St} {H : Hp} {s : Shared}
theorem lam_body {A : Around} {outer : List Env} {E : XK} {scope : Scope} {f c' : Addr} {body : Expr} {te : XK3 → TE3}
    (hb : ∀ (G : Gh) (E3 : XK3), (G.M = ⟨X.K, X.mg, G.M.D⟩ ∧ G.q = none) → Lets (LamX.lamCx X A outer s H E scope f c') G E3 E → PE (LamX.lamCx X A outer s H E scope f c') body (up G (te E3))) : PE (LamX.lamCx X A outer s H E scope f c') body (lamT X.K X.mg te E) :=
  ⟨fun pins s' σ H' Q I h => by
    obtain ⟨D, Z, s3, P3, E3, sz, d, so, ht, kq, kx⟩ := h
    have L : Lets (LamX.lamCx X A outer s H E scope f c') ⟨⟨X.K, X.mg, D⟩, noT H', Z, none⟩ E3 E := ⟨passes_call (takes_of rfl rfl rfl rfl) fun _ _ _ _ h => h, kx, takes_of rfl rfl rfl rfl⟩
    refine (hb ⟨⟨X.K, X.mg, D⟩, noT H', Z, none⟩ E3 ⟨rfl, rfl⟩ L).run pins s' σ H' Q I ⟨fun _ => none, Z, s3, P3, ?_, ht, fun t s2 ht v Z' H2 _ f2 r => kq t s2 ht v Z' H2 f2.toCore r⟩
    exact { le := sz.le, z0 := fun _ _ q => q, nw := fun a h1 h2 => absurd h1 h2, kp := sameKp (noT_same H'), dr := d, tb := sz.tb, zt := sz.zt, h0 := noT_nt _, len := so.len, sh := so.sh, ow := fun i t e => absurd e (so.ow i t), inj := fun i j a t u e => absurd e (so.ow i t), px := fun a o e => by cases e }⟩
/-- the call, in the def Y that got the lambda from X -/
theorem act_run {CXg : CXT} {Eg : XK} {Ng : List Str} {qg : Str} {sg : Scope} {g f c' : Addr} {cdg pm ctv : Value} {params : Arguments} {body : Expr} {scope : Scope} {k i : Nat} {a : Str} {pn : List (Addr × Obj)} {xe : Value → Shared → Prop} {W : WX} {tb : XK → TE} {p1 p2 : Pos}
    (I : Inv X pins σ H s) (L : LamX.LamS X.env.scope scope) (hf : s.heap.get? f = some (PySem.W.kla_obj "<lambda>" (X.env.qual ++ "<lambda>") params body scope (cloFrom X.env.cells scope.names []) pm c' ctv)) (hfn : H f = none) (hfr : f ∉ frs X.stack)
    (hbd : bindArgs (PySem.W.kla_fn "<lambda>" (X.env.qual ++ "<lambda>") params body scope (cloFrom X.env.cells scope.names []) pm (.ref c') ctv) ⟨[], []⟩ = pure [])
    (tk : Takes ((cxOf CXg X.prog X.w X.K X.mg X.base Ng qg sg g cdg X.A X.stack s H Eg).tr pn xe) W) (hr : Room (k + 1) (X.A.deeper (envOfC qg sg s.heap.objs.size g cdg)))
    (hb : ∀ (E : XK) (A : Around) (outer : List Env) (s1 : Shared) (H1 : Hp), Room k (A.deeper (LamX.lamEnv X scope s1.heap.objs.size f c')) → PE (LamX.lamCx X A outer s1 H1 E scope f c') body (tb E))
    (hN : Ng[i]? = some a) (hv : Vis sg a) (hd : (a == ("__debug__" : Str)) = false) (hcd : (a == ("__classdict__" : Str)) = false) (hCX : CXg = L2.CX X.prog X.w) :
    PE ((cxOf CXg X.prog X.w X.K X.mg X.base Ng qg sg g cdg X.A X.stack s H Eg).tr pn xe) (.Call (.Name a p1) [] [] p2) (fun σZ HZ Q => σZ[i]? = some (some (.ref f)) ∧ HZ c' = some (LamX.CodeO c' (X.env.qual ++ "<lambda>")) ∧ tb (WE W σZ) σ HZ Q) := by
  subst hCX
  generalize hY : (cxOf (L2.CX X.prog X.w) X.prog X.w X.K X.mg X.base Ng qg sg g cdg X.A X.stack s H Eg).tr pn xe = Y at tk
  constructor
  rintro pinsZ sZ σZ HZ Q IZ ⟨at0, atc, told⟩
  have nm : PE Y (.Name a p1) (tVar i) := by subst hY; exact pe_var hN hv hd hcd
  refine wpAny_Call_Name_kw (thn (nm.run pinsZ sZ σZ HZ (fun v H1 => v = .ref f ∧ H1 = HZ) IZ ⟨.ref f, at0, rfl, rfl⟩) ?_)
  rintro u s1 ⟨v1, H1, I1, rv1, ev, eH⟩
  subst ev
  rw [eH] at I1
  obtain rfl : u = Value.ref f := rv1
  have un : Un (frs X.stack) [] H HZ s.heap s1.heap := by subst hY; exact I1.base
  have fAt := un.keep f _ hf hfn hfr (fun z => nomatch (show f ∈ ([] : List Addr) from z))
  refine PySem.W.callWith_F0 ⟨_, _, _, _, fAt⟩ ?_
  obtain ⟨⟨oc, us, tk1, g1, g2, g3⟩, _, _⟩ := I1.hok c' _ atc
  have e0 := I1.env0
  have hA : Y.A = X.A.deeper (envOfC qg sg s.heap.objs.size g cdg) := by subst hY; rfl
  have hS : Y.stack = envOfC qg sg s.heap.objs.size g cdg :: X.stack := by subst hY; rfl
  have hP : Y.prog = X.prog ∧ Y.w = X.w ∧ Y.K = X.K ∧ Y.mg = X.mg ∧ Y.base = X.base := by subst hY; exact ⟨rfl, rfl, rfl, rfl, rfl⟩
  obtain ⟨q1, q2, q3, q4, q5⟩ := hP
  rw [q1, q2, q3, q4, q5, hA, hS] at e0
  rw [q1, q2, hA]
  have run : codeAny (model X.prog X.w) (X.A.deeper (envOfC qg sg s.heap.objs.size g cdg)) (.call (.ref f) ⟨[], []⟩) (CR (L2.CX X.prog X.w) (envOfC qg sg s.heap.objs.size g cdg :: X.stack) X.prog X.w HZ s1 Q (WE W σZ)) s1 := by
    refine PySem.W.kla_callFunE hr.depth fAt rfl L.co L.gen rfl ⟨c', oc, us, tk1, rfl, g1, g2, g3⟩ ?_
    rw [hbd]
    refine wpAny_pure (wpAny_newFunctionEnv (fun y hy => (L.own y hy).2) (fun y hy => absurd hy (by simp)) (fun h2 hns hsb => ⟨I1.nolimit.fresh _ hsb, ?_⟩) L.kind)
    have kp : ∀ b o, s1.heap.get? b = some o → h2.get? b = some o := fun b o e => hsb.extBut b o (Nat.ne_of_lt (Heap.lt_size e)) (Heap.get?_push_of_some _ e)
    have J := LamX.lam_start2 (E := WE W σZ) (f := f) (c' := c') (tk := s1.toks + ([] : List (Str × Value)).length) I L e0 hr.hd un hns kp
    refine PySem.W.kla_codeExpr (wpAny_mono ((hb (WE W σZ) _ _ s1 HZ (hr.deeper _)).run [] _ _ HZ Q J told) ?_ fun e s3 out => out)
    rintro v s3 ⟨w3, H3, J3, rv, q⟩
    exact ⟨w3, H3, J3.os, J3.bare, J3.base, J3.hok, rv, q⟩
  refine wpAny_call (codeAny_mono run fun r s3 out => ?_)
  match r, out with
  | .error e, out => exact passAt tk σZ pinsZ HZ s1 e s3 I1 (by rw [q1, q2, hS]; exact out)
  | .ok (.ret u), out => exact I1.after (by rw [q1, q2, hS]; exact out)
  | .ok .next, out => exact out.elim
  | .ok .brk, out => exact out.elim
  | .ok .cont, out => exact out.elim
end
/-- a def that gets a function (its parameter a), calls it and lets no error out -/
structure LamD (P : Program) (w : World) (K : PySem.W.Frag) (mg : Str → Option Value) (base : Heap) (x a : Str) (k : Nat) (spf : Sp3 → Sp3) : Prop where
  ex : ∃ (st : Stmt) (g : Addr) (fd : FuncData) (N : List Str) (b : Sp3 → XK3 → TS3), Fun K x x st g fd ∧ mg x = some (.ref g) ∧ Binds K fd [a] [] ∧ FnScope N [a] (defScope st) ∧ N[0]? = some a ∧ Vis (defScope st) a ∧ (∀ W, spf W = spOf N.length 1 (b W)) ∧
    ∀ (cdv : Value) (A : Around) (outer : List Env) (s : Shared) (H : Hp) (E : XK) (G : Gh) (E3 : XK3) (W : Sp3), Room k (A.deeper (envOfC x (defScope st) s.heap.objs.size g cdv)) → G.M = ⟨K, mg, G.M.D⟩ →
      Lets (cxOf (L2.CX P w) P w K mg base N x (defScope st) g cdv A outer s H E) G E3 E →
      (∀ (W' : WX) (pn : List (Addr × Obj)) (xe : Value → Shared → Prop) (p1 p2 : Pos), Takes ((cxOf (L2.CX P w) P w K mg base N x (defScope st) g cdv A outer s H E).tr pn xe) W' →
        PE ((cxOf (L2.CX P w) P w K mg base N x (defScope st) g cdv A outer s H E).tr pn xe) (.Call (.Name a p1) [] [] p2) (upX G W' (xAct W))) →
      PSs (cxOf (L2.CX P w) P w K mg base N x (defScope st) g cdv A outer s H E) (defBody st) (upS G (b W E3))
theorem qs_never {X : Cx} {G : Gh} {rest : List Stmt} : PSs X rest (upS G sNo) := ⟨fun _ _ _ _ _ _ ⟨_, _, _, _, _, h, _⟩ => h.elim⟩
/-! ### a, b = a list -/
def gL (n : Nat) (gs : TGs3) : TG3 := fun t s Q => match t with
  | .lst ts => (match lenIs ts n with
    | true => gs ts s Q
    | false => False)
  | _ => False
theorem qg_lst {X : Cx} {G : Gh} {es : List Expr} {gs : TGs3} {is : List Nat} {pos : Pos} {k n : Nat} (hK : X.K = G.M.K) (hc : X.calm = true) (h : PGs X es (upGs G is gs)) (hn : (assignEach es X.env).length = n := by rfl) (hst : (assignEach es X.env).findIdx? (·.1) = none := by rfl) : PG X (.Tuple es k pos) (upG G is (gL n gs)) :=
  PG.imp (pg_unl hc h hn hst) fun v σ H R ⟨px, Z, s, t, Q3, fm, r, h, k⟩ => by
    unfold gL at h
    split at h
    · split at h
      · rename_i e
        cases r with
        | lst g n r => exact ⟨_, _, rfl, .inl (.inl (fm.le _ _ g)), by rw [← r.len]; exact lenIs_eq e, px, Z, s, _, Q3, fm, r, h, k⟩
      · exact h.elim
    · exact h.elim
/-- a lambda without parameters -/
def lamP (params : Arguments) (body : Expr) (scope : Scope) : Prop := ∀ (q : Str) (cl : List (Str × Addr)) (pm cv ctv : Value), bindArgs (PySem.W.kla_fn "<lambda>" q params body scope cl pm cv ctv) ⟨[], []⟩ = pure []
/-- the place of a def's lambdas -/
structure LamT (K : PySem.W.Frag) (mg : Str → Option Value) (base : Heap) (x : Str) (cd : Value) : Prop where
  ex : ∃ c P : Addr, cd = .ref c ∧ LamX.TabB base mg c P ∧ (P, x ++ "<lambda>") ∈ tabs K mg ∧ ∀ p ∈ tabs K mg, p.1 = P → p.2 = x ++ "<lambda>"
theorem q_lam {X : Cx} {G : Gh} {x a : Str} {k l j : Nat} {spf : Sp3 → Sp3} {te : XK3 → TE3} {params : Arguments} {body : Expr} {scope : Scope} {lpos p pos : Pos} (C : LamD X.prog X.w X.K X.mg X.base x a k spf) (hM : G.M = ⟨X.K, X.mg, G.M.D⟩) (T : LamT X.K X.mg X.base X.env.qual X.env.code) (hr : Room j X.A) (hj : k + 1 ≤ j) (hl : l + 2 ≤ j) (hg : Gl X x)
    (L : LamX.LamS X.env.scope scope) (hdef : defaultsOf params X.env = ([], [])) (hbind : lamP params body scope)
    (hb : ∀ (A : Around) (outer : List Env) (s : Shared) (H : Hp) (E : XK) (f c' : Addr) (G : Gh) (E3 : XK3), Room l (A.deeper (LamX.lamEnv X scope s.heap.objs.size f c')) → (G.M = ⟨X.K, X.mg, G.M.D⟩ ∧ G.q = none) → Lets (LamX.lamCx X A outer s H E scope f c') G E3 E → PE (LamX.lamCx X A outer s H E scope f c') body (up G (te E3)))
    (hdb : (x == ("__debug__" : Str)) = false := by decide) (hd : (a == ("__debug__" : Str)) = false := by decide) (hcd : (a == ("__classdict__" : Str)) = false := by decide) :
    PE X (.Call (.Name x p) [.Lambda params body scope lpos] [] pos) (up G (tLamR spf te)) := by
  obtain ⟨st, g, fd, N, b, F, hm, bnd, S, hN0, hva, hsp, derived⟩ := C.ex
  obtain ⟨oc, od, kV, doc, pm, an, cdv, ct, osl, rfl, lk, hco⟩ := F.ex
  obtain ⟨c, P, hcode, TB, hmT, hu⟩ := T.ex
  have room : Room (max k (l + 1) + 1) X.A := hr.mono (by omega)
  constructor
  rintro pins s σ H Q I ⟨px, Z, s3, Q3, fm, h, kq⟩
  have hT : LamX.Tabs (tabs X.K X.mg) H := by
    have := fm.tb
    rw [hM] at this
    exact this
  refine wpAny_Call_Name_kw (ld_glob I hg hm ?_ hdb)
  refine PySem.W.callWith_K (h₀ := X.base) I.ok.mod.kin F.kp ?_ (by rfl) (by rfl)
  refine Calls.spliced_cons (LamX.lam_make2 I TB hcode hmT hu hT hdef (L.has I.ok) ?_)
  intro f c' pm' ctv H1 s1 I1 eN T1 hf hfn hfr atc
  refine Calls.spliced_nil ⟨I1.kIn, ?_⟩
  have eN' : ∀ a o, H a = some o → NT o → H1 a = some o := fun a o e n => eN a o e n.ne
  have sz : Sz X.K X.mg Z H1 := ⟨fun a o e => eN' a o (fm.le a o e) (fm.zt a o e), T1, fm.zt⟩
  have d1 : DrOk G.M.D H1 Z := fm.dr.extN eN'
  have hv := h (.ref f)
  rw [hsp] at hv
  have run : codeAny (model X.prog X.w) X.A (.call (.ref g) ⟨[.ref f], []⟩) (CR (L2.CX X.prog X.w) X.stack X.prog X.w H1 s1 Q E0) s1 := by
    refine LamX.run_ofS (CX := L2.CX X.prog X.w) (N := N) (ps := [a]) (us := [.ref f]) (vs := [.ref f]) lk hco S room I1.env0 (bnd s1 [.ref f] I1.kIn rfl) (.cons rfl .nil) rfl fun hr1 => ?_
    have hr1 : Room (max k (l + 1)) (X.A.deeper (envOfC x (defScope st) s1.heap.objs.size g cdv)) := hr1
    refine ⟨_, derived cdv X.A X.stack s1 H1 E0 ⟨⟨X.K, X.mg, G.M.D⟩, noT H1, Z, none⟩ E03 _ (hr1.mono (by omega)) rfl lets0 (fun W' pn xe p1 p2 tk => ?_), fun _ => none, Z, _, _, fm_start (M := ⟨X.K, X.mg, G.M.D⟩) N sz d1 (.cons (.ob (.ref f)) .nil), hv, ?_⟩
    · refine PE.imp (act_run (tb := lamT X.K X.mg te) (k := l) (i := 0) I1 L hf hfn hfr (hbind _ _ _ _ _) tk (hr1.mono (by omega)) (fun E A outer s2 H2 hr2 => lam_body fun G E3 hM L => hb A outer s2 H2 E f c' G E3 hr2 hM L) hN0 hva hd hcd rfl) ?_
      rintro σZ HZ QZ ⟨px1, Z1, s4, Q4, E4, f1, h1, k1, ox⟩
      unfold xAct at h1
      split at h1
      · rename_i v e
        obtain ⟨ev, h1⟩ := h1
        cases ev
        obtain ⟨u, e1, r1⟩ := f1.sh 0 _ e
        cases r1
        refine ⟨e1, f1.kp c' _ (noT_of atc trivial) (by
          show c' ∉ DS G.M.D
          revert d1
          cases G.M.D with
          | none => exact fun _ => notnil
          | some y =>
            obtain ⟨y1, y2, y3⟩ := y
            exact fun d1 => d1.1.nx atc trivial), G.M.D, Z1, unow s3, fun t _ => Q4 t s4, E4 s4, f1.toCore.sz rfl, f1.dr, ?_, h1, fun t s5 ht v Z' H' c r => ?_, fun c fs he cls od Z' H' co xr => ?_⟩
        · have := fm.sl
          rw [hM] at this
          exact this.mono f1.z0
        · exact k1 t s4 ht v Z' H' c.z0 (f1.call c (fun _ _ q => q) (fun _ _ q => q) fun a h1 h2 => absurd h1 h2) r
        · exact ox s4 c fs he cls od σZ Z' H' co.z0 (f1.call co (fun _ _ q => q) (fun _ _ q => q) fun a h1 h2 => absurd h1 h2) (.of f1 xr)
      · exact h1.elim
    · have back : ∀ {Z' H'}, Core ⟨⟨X.K, X.mg, G.M.D⟩, noT H1, Z, none⟩ Z' H' → Fm G px Z' H' σ s3 := fun c => fm.callN (by rw [hM]; exact c) eN' (fun _ _ q => q) fun a h1 h2 => absurd h1 h2
      refine ⟨fun s5 h5 σ5 Z' H' e5 f5 => ?_, fun t ht v Z' H' e5 c5 r5 => ?_, fun _ h5 => h5.elim, fun _ h5 => h5.elim, fun _ _ h5 => h5.elim⟩
      · exact kq .non s3 h5 .non Z' H' e5 (back f5.toCore) .non
      · exact kq t s3 ht v Z' H' e5 (back c5) (by rw [hM]; exact r5)
  refine wpAny_call (codeAny_mono run fun r s2 out => ?_)
  match r, out with
  | .error e, ⟨_, _, _, _, _, _, _, _, _, _, _, _, z⟩ => exact z.elim
  | .ok (.ret u), out => exact I1.after out
  | .ok .next, out => exact out.elim
  | .ok .brk, out => exact out.elim
  | .ok .cont, out => exact out.elim
/-! ### what the end tells of the tables -/
theorem tabOf_mk {K : PySem.W.Frag} {mg : Str → Option Value} {x : Str} {f c P : Addr} {o oc : Obj} {fd : FuncData} {vs : Array Value} (hm : mg x = some (.ref f)) (hk : K.lookup f = some o) (hd : o.data = .func fd) (hc : fd.code = .ref c) (hk2 : K.lookup c = some oc) (hv : oc.data = .fields vs) (h11 : vs[11]? = some (.ref P)) :
    tabOf K mg x = some (c, P, x ++ ".<locals>." ++ "<lambda>") := by
  unfold tabOf
  rw [hm]
  dsimp only
  rw [hk]
  dsimp only
  rw [hd]
  dsimp only
  rw [hc]
  dsimp only
  rw [hk2]
  dsimp only
  rw [hv]
  dsimp only
  rw [h11]
theorem tabs3_none (h : lamDefs = []) {K : PySem.W.Frag} {mg : Str → Option Value} {p : Addr × Addr × Str} (hp : p ∈ tabs3 K mg) : False := by
  unfold tabs3 at hp
  rw [h] at hp
  cases hp
theorem tabs3_one {x : Str} (h : lamDefs = [x]) {K : PySem.W.Frag} {mg : Str → Option Value} {q : Addr × Addr × Str} (ht : tabOf K mg x = some q) : tabs3 K mg = [q] := by
  unfold tabs3
  rw [h, List.filterMap_cons, ht]
  rfl
theorem no_one {x : Str} (h : lamDefs = [x]) {K : PySem.W.Frag} {mg : Str → Option Value} {q : Addr × Addr × Str} (ht : tabOf K mg x = some q) (hn : K.lookup q.2.1 = none) : ∀ e ∈ tabs3 K mg, K.lookup e.2.1 = none := fun e he => by
  rw [tabs3_one h ht] at he
  rw [List.mem_singleton.mp he]
  exact hn
theorem lamT_one {x : Str} (h : lamDefs = [x]) {K : PySem.W.Frag} {mg : Str → Option Value} {base : Heap} {c P : Addr} (ht : tabOf K mg x = some (c, P, x ++ ".<locals>." ++ "<lambda>")) (TB : ∀ e ∈ tabs3 K mg, LamX.TabB base mg e.1 e.2.1) : LamT K mg base (x ++ ".<locals>.") (.ref c) := by
  have e1 := tabs3_one h ht
  have e2 : tabs K mg = [(P, x ++ ".<locals>." ++ "<lambda>")] := by
    unfold tabs
    rw [e1]
    rfl
  refine ⟨c, P, rfl, TB _ (by rw [e1]; exact List.mem_singleton.mpr rfl), by rw [e2]; exact List.mem_singleton.mpr rfl, fun p hp _ => ?_⟩
  rw [e2] at hp
  rw [List.mem_singleton.mp hp]
end G69
namespace G69
open PySem PySem.Spec PyProof.Rows L2
/-! ### errors as values -/
/-- what isinstance and fields ask of an error's class -/
structure XiC (K : PySem.W.Frag) (C : Addr) : Prop where
  cl : (PySem.W.clsIn K C).isSome = true
  ga : PySem.W.findIn K (.ref C) "__getattribute__" = some (some (.builtin "BaseException.__getattribute__"))
  gg : PySem.W.findIn K (.ref C) "__getattr__" = some none
  sb : PySem.W.subIn K (.ref C) (.type "BaseException") = some true
  fc : PySem.W.findIn K (.ref C) "__class__" = some (some (.builtin "object.__class__"))
  sp : PySem.W.specialIn K (.builtin "object.__class__") "__get__" = some (some (.builtin "getset_descriptor.__get__"))
  tk : PySem.W.takesIn K (.builtin "object.__class__") = some true
  mr : PySem.W.mroIn K C (.type "object") = some true
structure Ei3 (K : PySem.W.Frag) (mg : Str → Option Value) (errs : List Nat) (x : Nat) : Prop where
  ex : ∃ X, mg (en x) = some (.ref X) ∧ PySem.W.kitOne K (.type "NoneType") (.ref X) = some false ∧ ∀ c ∈ errs, ∀ C, mg (en c) = some (.ref C) → XiC K C ∧ PySem.W.kitOne K (.ref C) (.ref X) = some (subX c x)
/-- an error's dict, if it has one -/
def XdAt (H : Hp) (od : Option Addr) : Prop := od = none ∨ ∃ d fs, od = some d ∧ H d = some (.xd fs)
theorem inst_err {X : Cx} {pins : List (Addr × Obj)} {σ : L2.St} {H : Hp} {s : Shared} {a C : Addr} {od : Option Addr} (I : Inv X pins σ H s) (ha : H a = some (ErO (.ref C) od a)) (hd : XdAt H od) : ∃ (oe : Obj) (dd : Option Obj), PySem.W.InstAt s.heap a oe C dd := by
  obtain ⟨⟨oe, he, hz, vs, hf⟩, _, _⟩ := I.hok a _ ha
  rcases hd with rfl | ⟨d, fs, rfl, hx⟩
  · refine ⟨oe, none, ?_⟩
    obtain ⟨oc, o1, o2, o3⟩ := oe
    obtain ⟨h1, h2⟩ := hz
    dsimp only at h1 h2 hf
    subst h1 h2 hf
    exact ⟨he, rfl, rfl, trivial⟩
  · have hx : ObjOk X.prog X.w H s.heap d (.xd fs) := I.hok d _ hx
    obtain ⟨mA, hns, hr⟩ := hx
    obtain ⟨dd, ho, hl⟩ := lookIn_ns hns
    exact ⟨oe, some dd, he, hz.1, by unfold PySem.W.notCls; rw [hf] <;> rfl, by rw [hz.2]; exact ho⟩
def rIsErr (K : PySem.W.Frag) : List V → Hp → VK → Prop := fun xs H Q => ∃ (a C : Addr) (od : Option Addr) (c : V) (cv : Value) (b : Bool), xs = [.ref a, c] ∧ H a = some (ErO (.ref C) od a) ∧ XdAt H od ∧ XiC K C ∧ (∀ u, RelV c u → u = cv) ∧ PySem.W.kitOne K (.ref C) cv = some b ∧ Q (.bl b) H
theorem call_isErr {X : Cx} : CallR X (.builtin "isinstance") (rIsErr X.K) := by
  rintro pins s σ H xs us Q I r ⟨a, C, od, c, cv, b, rfl, ha, hd, T, hcv, e, q⟩
  cases r with
  | cons rx rr =>
    cases rr with
    | cons rt rr =>
      cases rr
      cases rx
      have ec := hcv _ rt
      subst ec
      obtain ⟨oe, dd, J⟩ := inst_err I ha hd
      exact PySem.W.kia_one (PySem.W.kitx_exc T.cl T.ga T.gg T.sb T.fc T.sp T.tk T.mr) I.kIn J e (fun z => nomatch z) fun tk => ⟨.bl b, H, I.kept (t' := tk) fun _ _ z => z, rfl, q⟩
@[irreducible] def fIsE (errs : List Nat) (x : Nat) : F1 := fun t P => match t with
  | .err c _ => (match hasN errs c with
    | true => P (.bl (subX c x))
    | false => False)
  | .non => P (.bl false)
  | _ => False
section
variable {X : Cx} {G : Gh} {a : Expr} {ta : TE3} {errs : List Nat} {xc : Nat} {p p2 pos : Pos}
theorem q_isE {x : Str} (hM : G.M = ⟨X.K, X.mg, G.M.D⟩) (E : Ei3 X.K X.mg errs xc) (hx : en xc = x) (hg : Gl X "isinstance") (hm : X.mg "isinstance" = none) (hgx : Gl X x) (he : PE X a (up G ta)) (hd : (x == ("__debug__" : Str)) = false := by decide)
    (hst : starEach [a, .Name x p2] X.env = (false, eval a X.env) :: starEach [.Name x p2] X.env := by rfl) (hst2 : starEach [.Name x p2] X.env = (false, eval (.Name x p2) X.env) :: starEach [] X.env := by rfl) (hpl : (backTo pos (starEach [.Name x p2] X.env)).any (·.1) = false := by rfl) :
    PE X (.Call (.Name "isinstance" p) [a, .Name x p2] [] pos) (up G (tUn3 (fIsE errs xc) ta)) := by
  obtain ⟨Cx, g, hnon, ex⟩ := E.ex
  refine PE.imp (pe_callB (caOr call_isErr call_isi) hg hm (by decide +kernel) (pa_cons he (pa_cons (pe_glob (v := .ref Cx) hgx (hx ▸ g) rfl hd) pa_nil hst2) hst) (by decide) (by decide) hst hpl) fun σ H Q ⟨px, Z, s, Q3, fm, h, kx⟩ => ⟨px, Z, s, _, fm, h, fun t s1 hf v Z1 H1 e1 f1 r1 => ?_⟩
  unfold fIsE at hf
  split at hf
  · split at hf
    · rename_i hc
      cases r1 with
      | err g1 g2 g3 q1 =>
        rw [hM] at g1
        obtain ⟨T, kt⟩ := ex _ (hasN_mem hc) _ g1
        refine .inl ⟨_, _, _, .ref Cx, .ref Cx, _, rfl, f1.le _ _ g2, ?_, T, fun u r => r, kt, kx _ s1 hf _ Z1 H1 e1 f1 (.bl _)⟩
        rcases g3 with ⟨_, g3⟩ | ⟨d, g3, g4⟩
        · exact .inl g3
        · exact .inr ⟨d, _, g3, f1.le _ _ g4⟩
    · exact hf.elim
  · cases r1
    exact .inr ⟨.non, _, _, _, false, rfl, .own Cx, .base .non, hnon, kx _ s1 hf _ Z1 H1 e1 f1 (.bl _)⟩
  · exact hf.elim
/-! ### error.f -/
def tFdE (c j : Nat) (te : TE3) : TE3 := fun s Q => te s fun t s1 => match t with
  | .err c' ts => (match Nat.beq c c', ts[j]? with
    | true, some t => Q t s1
    | _, _ => False)
  | _ => False
theorem q_fdE {e : Expr} {te : TE3} {c j : Nat} {f : Str} (hM : G.M = ⟨X.K, X.mg, G.M.D⟩) (F : Xf3 X.K X.mg c) (hj : (ef c)[j]? = some f) (hnd : (ef c).Nodup) (he : PE X e (up G te)) (hb : attributeBase e f X.env (eval e X.env) = eval e X.env := by rfl) : PE X (.Attribute e f pos) (up G (tFdE c j te)) := by
  obtain ⟨C, g, xf, no⟩ := F.ex
  have hno := no f (List.mem_of_getElem? hj)
  refine ⟨fun pins s0 σ H Q I ⟨px, Z, s, Q3, fm, h, k⟩ => ?_⟩
  refine attr_of hb (thn (he.run pins s0 σ H (fun x H1 => ∃ (a d : Addr) (fs : List (Str × V)) (v : V), x = .ref a ∧ H1 a = some (ErO (.ref C) (some d) a) ∧ H1 d = some (.xd fs) ∧ fs.lookup f = some v ∧ Q v H1) I ⟨px, Z, s, _, fm, h, fun t s1 ht v Z1 H1 e1 f1 r1 => ?_⟩) ?_)
  · split at ht
    · split at ht
      · rename_i c' ts _ _ t' hc ht'
        have ec := Nat.eq_of_beq_eq_true hc
        subst ec
        cases r1 with
        | err g1 g2 g3 q1 =>
          rw [hM] at g1
          have eC : C = _ := Value.ref.inj (Option.some.inj (g.symm.trans g1))
          subst eC
          rcases g3 with ⟨g3, _⟩ | ⟨d, g3, g4⟩
          · rw [g3] at hj
            cases hj
          · subst g3
            obtain ⟨u, u1, u2⟩ := q1.get ht'
            exact ⟨_, d, _, u, rfl, f1.le _ _ g2, f1.le _ _ g4, lookup_zip hnd hj u1, k _ s1 ht u Z1 H1 e1 f1 u2⟩
      · exact ht.elim
    · exact ht.elim
  · rintro u s1 ⟨x, H1, I1, rx, a, d, fs, v, rfl, ha, hd, hl, q⟩
    obtain rfl : u = Value.ref a := rx
    obtain ⟨⟨oe, he', hz, vs, hf⟩, _, _⟩ := I1.hok a _ ha
    have hx : ObjOk X.prog X.w H1 s1.heap d (.xd fs) := I1.hok d _ hd
    obtain ⟨mA, hns, hr⟩ := hx
    obtain ⟨od, ho, hlk⟩ := lookIn_ns hns
    obtain ⟨w, hw, rw'⟩ := RelO.some_of (v := v) (o := mA f) (by rw [← hl]; exact hr f)
    have J : PySem.W.InstAt s1.heap a oe C (some od) := ⟨he', hz.1, by unfold PySem.W.notCls; rw [hf] <;> rfl, by rw [hz.2]; exact ho⟩
    exact HandSPX.exc_get I1.kIn J xf.ga xf.gg xf.exC (PySem.W.findObj_own xf.hdC hno rfl (by rw [hlk, hw])) (handed_of rw') ⟨v, H1, I1.tok _, rw', q⟩
end
end G69
namespace G69
open PySem PySem.Spec PyProof.Rows L2
/-! ### errors made as values -/
section
variable {X : Cx} {G : Gh} {e : Expr} {te : TE3} {ta : TA3} {c j : Nat} {f x : Str} {errs : List Nat} {kws : List Keyword} {p p2 pos : Pos}
theorem pe_ofMk {t : L2.St → Hp → XK → Prop} (h : PMk X e t) : PE X e (fun σ H Q => t σ H fun cls d H' => ∀ a, H' a = none → Q (.ref a) (upd H' a (ErO cls d a))) := by
  refine ⟨fun pins s σ H Q I q => wpAny_mono (h pins s σ H _ I q) (fun u s' hu => ?_) fun _ _ z => z⟩
  obtain ⟨a, oe, vs, sI, H', cls, d, rfl, J, k, hne, ha, hz, hd, h1, na, os, ag, r, q1⟩ := hu
  have ok := erO_ok (P := X.prog) (w := X.w) (H := upd H' a (ErO cls d a)) ha hz ⟨_, hd⟩
  obtain ⟨hp, g, dr, tk, o1⟩ := sI
  obtain ⟨hp2, g2, dr2, tk2, o2⟩ := s'
  exact ⟨.ref a, upd H' a (ErO cls d a), J.call' (ch := []) os (Un.laidN k hne na) (HOk.laidN J.hok k na ok) ag (fun b z => absurd z (by simp)), rfl, q1 a na⟩
theorem xd_back {H : Hp} {a dx C : Addr} {f : Str} {v : V} (na : H a = none) (ne : dx ≠ a) : upd (L2.del (upd (upd (upd H a (exo a C none)) dx (exd dx [(f, v)])) a (exo a C (some dx))) a) dx (.xd [(f, v)]) = upd H dx (.xd [(f, v)]) := by
  funext b
  by_cases hb : b = dx
  · rw [hb, upd_same, upd_same]
  · rw [upd_ne hb, upd_ne hb]
    by_cases ha : b = a
    · rw [ha, del_same, na]
    · rw [del_ne ha, upd_ne ha, upd_ne hb, upd_ne ha]
/-- X(k = v): its own __init__ -/
theorem pmk_xk {ta : TA} (T : XcI X.prog X.K X.mg c f) (hx : en c = x) (hr : Room j X.A) (hj : 2 ≤ j) (hg : Gl X x) (hk : PK X kws ta)
    (hall : (backToKw pos (keywordEach kws X.env)).all (·.1.isSome) = true := by rfl) (hks : (backToKw pos (keywordEach kws X.env)).filterMap (·.1) = [f] := by rfl) (hdb : (x == ("__debug__" : Str)) = false := by decide)
    (hpl : ((backTo pos (starEach [] X.env)).any (·.1) || (backToKw pos (keywordEach kws X.env)).any (·.1.isNone)) = false := by rfl) :
    PMk X (.Call (.Name x p) [] kws pos) (fun σ H Q => ta σ H fun vs H1 => ∃ v, vs = [v] ∧ ∀ C, X.mg x = some (.ref C) → ∀ dx, H1 dx = none → Q (.ref C) (some dx) (upd H1 dx (.xd [(f, v)]))) := by
  intro pins s σ H Q I h
  obtain ⟨C, fI, fd, gC, O, iC, tI, _, _, _, kb, F⟩ := T.ex
  have F1 := F X.w X.base
  have gx : X.mg x = some (.ref C) := hx ▸ gC
  obtain ⟨nm, qn, N, bs, bm, sn, sub, ab, col, dd, k0, k1, k2, k3, k5, hC, hbm⟩ := O.cls
  refine wpAny_Call_Name_kw (ld_glob I hg gx ?_ hdb)
  refine PySem.W.callWith_KW0 (h₀ := X.base) I.ok.mod.kin O.kC hall (thn (hk.run pos pins s σ H _ I h) fun ws s1 ⟨vs, H1, I1, rz, v, ev, q1⟩ => ⟨I1.kIn, ?_⟩) hpl
  rw [hks]
  subst ev
  cases rz with
  | @cons _ u _ _ ru rn =>
  cases rn
  obtain ⟨hp, g, dr, tk, os⟩ := s1
  have z1 : hp.objs.size ≤ hp.objs.size + 1 := Nat.le_succ _
  have n1 : H1 (hp.objs.size + 1) = none := I1.hok.fresh z1
  have kk : ∀ b o, hp.get? b = some o → ((hp.push (PySem.W.kdv_tup [])).push (PySem.HandSPX.excO C hp.objs.size)).get? b = some o := fun b o y => Heap.get?_push_of_some _ (Heap.get?_push_of_some _ y)
  have hat : ((hp.push (PySem.W.kdv_tup [])).push (PySem.HandSPX.excO C hp.objs.size)).get? (hp.objs.size + 1) = some (PySem.HandSPX.excO C hp.objs.size) := by heap_get
  have I2 : Inv X pins σ (upd H1 (hp.objs.size + 1) (exo (hp.objs.size + 1) C none)) ⟨(hp.push (PySem.W.kdv_tup [])).push (PySem.HandSPX.excO C hp.objs.size), g, dr, tk, os⟩ :=
    Inv.laid (t' := tk) (a := hp.objs.size + 1) (o := exo (hp.objs.size + 1) C none) I1 kk z1 (exo_ok hat)
  have rr : Vals [V.ref (hp.objs.size + 1), v] [Value.ref (hp.objs.size + 1), u] := .cons rfl (.cons ru .nil)
  have hq : spXI C f [V.ref (hp.objs.size + 1), v] (upd H1 (hp.objs.size + 1) (exo (hp.objs.size + 1) C none)) (fun y H2 => y = .non ∧ ∃ (d : Addr) (fs : List (Str × V)), H2 (hp.objs.size + 1) = some (exo (hp.objs.size + 1) C (some d)) ∧ H2 d = some (exd d fs) ∧ H1 d = none ∧ Q (.ref C) (some d) (upd (L2.del H2 (hp.objs.size + 1)) d (.xd fs))) (fun _ _ _ => False) :=
    ⟨_, v, rfl, upd_same, fun dx ndx ne => by
      rw [upd_ne ne] at ndx
      exact ⟨rfl, dx, [(f, v)], upd_same, by rw [upd_ne ne, upd_same], ndx, by rw [xd_back n1 ne]; exact q1 C gx dx ndx⟩⟩
  refine wpAny_call (PySem.HandSPX.ownK (kw := [(f, u)]) PySem.F.excBase_ValueError (fun Y => PySem.HandSPX.refsVE_contains Y bm hbm) (I1.kIn _ _ hC) (PySem.W.looks_findIn I1.kIn iC) (fun y => PySem.W.bind_fn I1.kIn y tI) (Nat.zero_le _)
    (codeAny_mono (F1.run _ X.stack _ _ ⟨[Value.ref (hp.objs.size + 1)], [(f, u)]⟩ [Value.ref (hp.objs.size + 1), u] _ _ (fun _ _ _ => False) ((hr.mono hj).make C [] [(f, u)]) (I2.env0.make C [] [(f, u)]) (kb.to _ [Value.ref (hp.objs.size + 1)] [u] I2.kIn rfl rfl) rr hq) fun r s' z => ?_))
  cases r with
  | error er => exact (passL pins σ _ _ er s' I2 z)
  | ok fl =>
    cases fl with
    | ret y =>
      obtain ⟨yv, H2, os2, bare2, un2, hok2, rv, ev, d, fs, ea, ed, hd1, q2⟩ := z
      subst ev
      obtain ⟨h2, g2, d2, t2, os'⟩ := s'
      exact ⟨rv, mk_end (raises_own O.exC O.tyC) I1 z1 kk un2 hok2 os2 bare2 ea ed hd1 q2⟩
    | next => exact False.elim z
    | brk => exact False.elim z
    | cont => exact False.elim z
def tEv (c : Nat) (te : TE3) : TE3 := fun s Q => te s fun t s1 => Q (.err c [t]) s1
def tEv0 (c : Nat) : TE3 := fun s Q => Q (.err c []) s
def tEvK (c : Nat) (ta : TA3) : TE3 := fun s Q => ta s fun ts s1 => match ts with
  | [t] => Q (.err c [t]) s1
  | _ => False
theorem ev_go (hM : G.M = ⟨X.K, X.mg, G.M.D⟩) {C : Addr} (gC : X.mg (en c) = some (.ref C)) (hf : ef c = [f]) {px Z Z1 H1 : Hp} {σ : L2.St} {s1 : S3} {t : T} {v : V} {Q3 : K3} {Q : VK} (k : ∀ t s', Q3 t s' → ∀ v Z' H', Same Z Z' → Fm G px Z' H' σ s' → Rp G.M Z' t v → Q v H')
    (ht : Q3 (.err c [t]) s1) (e1 : Same Z Z1) (f1 : Fm G px Z1 H1 σ s1) (r1 : Rp G.M Z1 t v) {dx : Addr} (ndx : H1 dx = none) {a : Addr} (na : upd H1 dx (.xd [(f, v)]) a = none) : Q (.ref a) (upd (upd H1 dx (.xd [(f, v)])) a (ErO (.ref C) (some dx) a)) := by
  obtain ⟨e2, f2⟩ := f1.new (o := .xd [(f, v)]) ndx
  obtain ⟨e3, f3⟩ := f2.new (o := ErO (.ref C) (some dx) a) na
  refine k _ s1 ht _ _ _ (e1.trans (e2.trans e3)) f3 (.err (vs := [v]) (by rw [hM]; exact gC) upd_same (.inr ⟨dx, rfl, e3 _ _ ?_⟩) (.cons (r1.mono (e2.trans e3)) .nil))
  rw [upd_same, hf]
  rfl
theorem q_ev (hM : G.M = ⟨X.K, X.mg, G.M.D⟩) (T : XcI X.prog X.K X.mg c f) (hx : en c = x) (hf : ef c = [f]) (hr : Room j X.A) (hj : 2 ≤ j) (hg : Gl X x) (he : PE X e (up G te)) (hdb : (x == ("__debug__" : Str)) = false := by decide)
    (hs : starEach [e] X.env = (false, eval e X.env) :: starEach [] X.env := by rfl) (hpl : (backTo pos (starEach [] X.env)).any (·.1) = false := by rfl) : PE X (.Call (.Name x p) [e] [] pos) (up G (tEv c te)) := by
  obtain ⟨C, fI, fd, gC, O, iC, tI, hb, _, _, _, F⟩ := T.ex
  refine PE.imp (pe_ofMk (pmk_oex (dvs := []) O iC tI (F X.w X.base) (hr.mono hj) hb .nil passL hg (hx ▸ gC) (pa_cons he pa_nil hs) hdb hs hpl)) fun σ H Q ⟨px, Z, s, Q3, fm, h, k⟩ => ?_
  refine ⟨px, Z, s, _, fm, h, fun t s1 ht v Z1 H1 e1 f1 r1 => ⟨by show 1 ≤ 1000; decide, fun a na => ⟨a, v, rfl, upd_same, fun dx ndx ne => ?_⟩⟩⟩
  rw [upd_ne ne] at ndx
  refine ⟨rfl, dx, [(f, v)], upd_same, by rw [upd_ne ne, upd_same], ndx, ?_⟩
  rw [xd_back na ne]
  exact fun b nb => ev_go hM gC hf k ht e1 f1 r1 ndx nb
theorem q_evK (hM : G.M = ⟨X.K, X.mg, G.M.D⟩) (T : XcI X.prog X.K X.mg c f) (hx : en c = x) (hf : ef c = [f]) (hr : Room j X.A) (hj : 2 ≤ j) (hg : Gl X x) (hk : PK X kws (upA G ta))
    (hall : (backToKw pos (keywordEach kws X.env)).all (·.1.isSome) = true := by rfl) (hks : (backToKw pos (keywordEach kws X.env)).filterMap (·.1) = [f] := by rfl) (hdb : (x == ("__debug__" : Str)) = false := by decide)
    (hpl : ((backTo pos (starEach [] X.env)).any (·.1) || (backToKw pos (keywordEach kws X.env)).any (·.1.isNone)) = false := by rfl) : PE X (.Call (.Name x p) [] kws pos) (up G (tEvK c ta)) := by
  obtain ⟨C0, _, _, gC0, _⟩ := T.ex
  refine PE.imp (pe_ofMk (pmk_xk T hx hr hj hg hk hall hks hdb hpl)) fun σ H Q ⟨px, Z, s, Q3, fm, h, k⟩ => ⟨px, Z, s, _, fm, h, fun ts s1 ht vs Z1 H1 e1 f1 r1 => ?_⟩
  split at ht
  · cases r1 with
    | cons r1 rn =>
      cases rn
      exact ⟨_, rfl, fun C gx dx ndx b nb => ev_go hM (hx ▸ gx) hf k ht e1 f1 r1 ndx nb⟩
  · exact ht.elim
theorem q_ev0 {m : Str} {i : Nat} (hM : G.M = ⟨X.K, X.mg, G.M.D⟩) (T : Xc0 X.K X.mg c) (hx : en c = x) (hf : ef c = []) (hg : Gl X x) (hdb : (x == ("__debug__" : Str)) = false := by decide) :
    PE X (.Call (.Name x p) [.Constant (.str m) i p2] [] pos) (up G (tEv0 c)) := by
  obtain ⟨C, gC, q, kC, h1, h2⟩ := T.ex
  exact PE.imp (pe_ofMk (pmk_own PySem.F.excBase_ValueError q (hx ▸ gC) kC (raises_own h1 h2) hg hdb)) fun σ H Q ⟨px, Z, s, Q3, fm, h, k⟩ a na => by
    obtain ⟨e3, f3⟩ := fm.new (o := ErO (.ref C) none a) na
    exact k _ s h _ _ _ e3 f3 (.err (vs := []) (by rw [hM]; exact gC) upd_same (.inl ⟨hf, rfl⟩) .nil)
/-- isinstance(e, ValueError) of an error -/
structure Ev3 (K : PySem.W.Frag) (mg : Str → Option Value) (errs : List Nat) : Prop where
  ex : ∀ c ∈ errs, ∀ C, mg (en c) = some (.ref C) → XiC K C ∧ PySem.W.kitOne K (.ref C) (.type "ValueError") = some true
@[irreducible] def fIsV (errs : List Nat) : F1 := fun t P => match t with
  | .err c _ => (match hasN errs c with
    | true => P (.bl true)
    | false => False)
  | _ => False
theorem q_isV {a : Expr} {ta : TE3} (hM : G.M = ⟨X.K, X.mg, G.M.D⟩) (E : Ev3 X.K X.mg errs) (hg : Gl X "isinstance") (hm : X.mg "isinstance" = none) (he : PE X a (up G ta)) (hT : PE X (.Name "ValueError" p2) (tC (.ty "ValueError")))
    (hst : starEach [a, .Name "ValueError" p2] X.env = (false, eval a X.env) :: starEach [.Name "ValueError" p2] X.env := by rfl) (hst2 : starEach [.Name "ValueError" p2] X.env = (false, eval (.Name "ValueError" p2) X.env) :: starEach [] X.env := by rfl) (hpl : (backTo pos (starEach [.Name "ValueError" p2] X.env)).any (·.1) = false := by rfl) :
    PE X (.Call (.Name "isinstance" p) [a, .Name "ValueError" p2] [] pos) (up G (tUn3 (fIsV errs) ta)) := by
  refine PE.imp (pe_callB call_isErr hg hm (by decide +kernel) (pa_cons he (pa_cons hT pa_nil hst2) hst) (by decide) (by decide) hst hpl) fun σ H Q ⟨px, Z, s, Q3, fm, h, kx⟩ => ⟨px, Z, s, _, fm, h, fun t s1 hf v Z1 H1 e1 f1 r1 => ?_⟩
  unfold fIsV at hf
  split at hf
  · split at hf
    · rename_i hc
      cases r1 with
      | err g1 g2 g3 q1 =>
        rw [hM] at g1
        obtain ⟨T, kt⟩ := E.ex _ (hasN_mem hc) _ g1
        refine ⟨_, _, _, .ty "ValueError", .type "ValueError", _, rfl, f1.le _ _ g2, ?_, T, fun u r => r, kt, kx _ s1 hf _ Z1 H1 e1 f1 (.bl _)⟩
        rcases g3 with ⟨_, g3⟩ | ⟨d, g3, g4⟩
        · exact .inl g3
        · exact .inr ⟨d, _, g3, f1.le _ _ g4⟩
    · exact hf.elim
  · exact hf.elim
end
end G69
namespace G69
open PySem PySem.Spec PyProof.Rows L2
/-! ### error.f, of several classes -/
section
variable {X : Cx} {G : Gh} {pos : Pos}
def tFdL (cs : List Nat) (te : TE3) : TE3 := fun s Q => te s fun t s1 => match t with
  | .err c [t] => (match hasN cs c with
    | true => Q t s1
    | false => False)
  | _ => False
theorem q_fdL {e : Expr} {te : TE3} {cs : List Nat} {f : Str} (hM : G.M = ⟨X.K, X.mg, G.M.D⟩) (F : ∀ c ∈ cs, Xf3 X.K X.mg c ∧ ef c = [f]) (he : PE X e (up G te)) (hb : attributeBase e f X.env (eval e X.env) = eval e X.env := by rfl) : PE X (.Attribute e f pos) (up G (tFdL cs te)) := by
  refine ⟨fun pins s0 σ H Q I ⟨px, Z, s, Q3, fm, h, k⟩ => ?_⟩
  refine attr_of hb (thn (he.run pins s0 σ H (fun x H1 => ∃ (a d C : Addr) (v : V), x = .ref a ∧ H1 a = some (ErO (.ref C) (some d) a) ∧ H1 d = some (.xd [(f, v)]) ∧ XfC X.K C ∧ PySem.W.findIn X.K (.ref C) f = some none ∧ Q v H1) I ⟨px, Z, s, _, fm, h, fun t s1 ht v Z1 H1 e1 f1 r1 => ?_⟩) ?_)
  · split at ht
    · split at ht
      · rename_i c t _ hc
        obtain ⟨Fx, hf⟩ := F c (hasN_mem hc)
        obtain ⟨C, g, xf, no⟩ := Fx.ex
        cases r1 with
        | err g1 g2 g3 q1 =>
          rw [hM] at g1
          have eC := Value.ref.inj (Option.some.inj (g.symm.trans g1))
          subst eC
          rcases g3 with ⟨g3, _⟩ | ⟨d, g3, g4⟩
          · rw [g3] at hf
            cases hf
          · subst g3
            cases q1 with
            | cons u2 u3 =>
              cases u3
              rw [hf] at g4
              exact ⟨_, d, _, _, rfl, f1.le _ _ g2, f1.le _ _ g4, xf, no f (by rw [hf]; exact List.mem_cons_self), k _ s1 ht _ Z1 H1 e1 f1 u2⟩
      · exact ht.elim
    · exact ht.elim
  · rintro u s1 ⟨x, H1, I1, rx, a, d, C, v, rfl, ha, hd, xf, hno, q⟩
    obtain rfl : u = Value.ref a := rx
    obtain ⟨⟨oe, he', hz, vs, hf⟩, _, _⟩ := I1.hok a _ ha
    have hx : ObjOk X.prog X.w H1 s1.heap d (.xd [(f, v)]) := I1.hok d _ hd
    obtain ⟨mA, hns, hr⟩ := hx
    obtain ⟨od, ho, hlk⟩ := lookIn_ns hns
    have hl : List.lookup f [(f, v)] = some v := by rw [List.lookup_cons, beq_self_eq_true]
    obtain ⟨w, hw, rw'⟩ := RelO.some_of (v := v) (o := mA f) (by rw [← hl]; exact hr f)
    have J : PySem.W.InstAt s1.heap a oe C (some od) := ⟨he', hz.1, by unfold PySem.W.notCls; rw [hf] <;> rfl, by rw [hz.2]; exact ho⟩
    exact HandSPX.exc_get I1.kIn J xf.ga xf.gg xf.exC (PySem.W.findObj_own xf.hdC hno rfl (by rw [hlk, hw])) (handed_of rw') ⟨v, H1, I1.tok _, rw', q⟩
/-! what the top has written of errors -/
theorem xiC_mk {K : PySem.W.Frag} {C : Addr} (h1 : PySem.W.hasDictIn K C = true) (h2 : PySem.W.findIn K (.ref C) "__getattribute__" = some (some (.builtin "BaseException.__getattribute__"))) (h3 : PySem.W.findIn K (.ref C) "__getattr__" = some none) (h4 : PySem.W.subIn K (.ref C) (.type "BaseException") = some true)
    (h5 : PySem.W.findIn K (.ref C) "__class__" = some (some (.builtin "object.__class__"))) (h6 : PySem.W.specialIn K (.builtin "object.__class__") "__get__" = some (some (.builtin "getset_descriptor.__get__"))) (h7 : PySem.W.takesIn K (.builtin "object.__class__") = some true) (h8 : PySem.W.mroIn K C (.type "object") = some true) : XiC K C :=
  ⟨by obtain ⟨cd, hc, _⟩ := PySem.W.any_some h1; rw [hc]; rfl, h2, h3, h4, h5, h6, h7, h8⟩
theorem kit_ref {K : PySem.W.Frag} {t : Value} {C : Addr} {b : Bool} (h1 : PySem.W.hasDictIn K C = true) (h2 : PySem.W.typeIn K (.ref C) = some (.type "type")) (h3 : PySem.W.subIn K (.ref C) (.ref C) = some true) (h4 : PySem.W.subIn K t (.ref C) = some b) : PySem.W.kitOne K t (.ref C) = some b := by
  unfold PySem.W.kitOne
  split
  · rename_i e
    have e := beq_iff_eq.mp e
    subst e
    exact (h3.symm.trans h4).symm ▸ rfl
  · obtain ⟨cd, hc, _⟩ := PySem.W.any_some h1
    unfold PySem.W.kitCls
    dsimp only
    rw [hc, h2, if_pos (by rfl)]
    exact h4
theorem kit_ve {K : PySem.W.Frag} {C : Addr} (h : PySem.W.subIn K (.ref C) (.type "ValueError") = some true) : PySem.W.kitOne K (.ref C) (.type "ValueError") = some true := by
  unfold PySem.W.kitOne
  rw [if_neg (by intro z; exact absurd (beq_iff_eq.mp z) (by intro q; cases q))]
  unfold PySem.W.kitCls
  dsimp only
  rw [if_pos (by decide +kernel)]
  exact h
end
end G69
namespace G69
open PySem PySem.Spec PyProof.Rows L2
/-! ### try: .. except X as e: y = e -/
def errT (c : Nat) (fs : List T) : T := match ef c with
  | [] => .err c []
  | _ :: _ => .err c fs
def sTryK (errs : List Nat) (b : TSX3) (xc i j : Nat) : TS3 := fun D s => b D s fun s' c fs => match hasN errs c, subX c xc, s'[i]?, s'[j]? with
  | true, true, some _, some _ => D.nx (((s'.set i .no).set j (.sh (errT c fs))).set i .no)
  | _, _, _, _ => False
theorem keep_in {G : Gh} {px Z H : Hp} {σ : L2.St} {s : S3} {c : Nat} {fs : List T} {cls : Value} {od : Option Addr} {a : Addr} {i j : Nat} (f : Fm G px Z H σ s) (xr : XrS G px Z H σ s c fs cls od) (na : H a = none) (hj : j < s.length) :
    ∃ Z', Same Z Z' ∧ Fm G px Z' (upd H a (ErO cls od a)) (((σ.set i (some (.ref a))).set j (some (.ref a))).set i none) (((s.set i .no).set j (.sh (errT c fs))).set i .no) := by
  obtain ⟨C, x1, x2, x3⟩ := xr
  subst x2
  have step : ∀ (Zd : Hp) (t : T), Same Z Zd → Fm G px Zd H σ s → (∀ Z', Same Zd Z' → Z' a = some (ErO (.ref C) od a) → Rp G.M Z' t (.ref a)) → t = errT c fs → ∃ Z', Same Z Z' ∧ Fm G px Z' (upd H a (ErO (.ref C) od a)) (((σ.set i (some (.ref a))).set j (some (.ref a))).set i none) (((s.set i .no).set j (.sh (errT c fs))).set i .no) := by
    intro Zd t hz fd hx et
    subst et
    obtain ⟨e2, f2⟩ := fd.new (o := ErO (.ref C) od a) na
    exact ⟨_, hz.trans e2, ((f2.setNo i (some (.ref a))).setSh (by rw [List.length_set]; exact hj) (hx _ e2 upd_same)).unset i⟩
  rcases x3 with ⟨y1, y2⟩ | ⟨d, vs, y1, y2, y3, y4, y5, y6, y7⟩
  · refine step Z (.err c []) (fun _ _ q => q) f (fun Z' e1 e2 => .err (vs := []) x1 e2 (.inl ⟨y1, y2⟩) .nil) ?_
    unfold errT
    rw [y1]
  · have fin : ∀ Zd, Same Z Zd → Fm G px Zd H σ s → Zd d = some (.xd ((ef c).zip vs)) → RpL G.M Zd fs vs → ∃ Z', Same Z Z' ∧ Fm G px Z' (upd H a (ErO (.ref C) od a)) (((σ.set i (some (.ref a))).set j (some (.ref a))).set i none) (((s.set i .no).set j (.sh (errT c fs))).set i .no) := fun Zd hz fd hd hr => by
      refine step Zd _ hz fd (fun Z' e1 e2 => ?_) rfl
      unfold errT
      split
      · rename_i e
        exact .err (vs := []) x1 e2 (.inr ⟨d, y1, by rw [e1 _ _ hd, e]; rfl⟩) .nil
      · exact .err (vs := vs) x1 e2 (.inr ⟨d, y1, e1 _ _ hd⟩) (hr.mono e1)
    cases e : Z d with
    | some u =>
      have := f.le d u e
      rw [y6] at this
      cases this
      exact fin Z (fun _ _ q => q) f e y7
    | none =>
      have fz := f.freeze ⟨e, y2, y3, y4⟩ y5 y6 trivial
      exact fin _ (Same.new e) fz upd_same (y7.mono (Same.new e))
section
variable {X : Cx} {G : Gh} {errs : List Nat}
theorem q_tryK {body : List Stmt} {b : TSX3} {x n y : Str} {xc i j : Nat} {np hp p1 p2 p3 pos : Pos} (hM : G.M = ⟨X.K, X.mg, G.M.D⟩) (hst : X.stack = X.env :: X.outer) (hfr : X.env.frame = some X.env.locals) (hN : X.N.Nodup)
    (hb : ∀ (W : WX) (pn : List (Addr × Obj)) (xe : Value → Shared → Prop), Takes (X.tr pn xe) W → PSs (X.tr pn xe) body (upSX G W b)) (hx : en xc = x) (E : Ex3 X.K X.mg errs xc) (hg : Gl X x) (hdb : (x == ("__debug__" : Str)) = false) (hi : X.N[i]? = some n) (hl : X.env.kindOf n = some .local)
    (hs : ∀ (a : Addr) (oe : Obj) (pn : List (Addr × Obj)), PSs (X.suite a ((a, oe) :: pn)) [.Assign [.Name y p1] (.Name n p2) p3] (tAsg (tVar i) (gName j))) : PS X (.Try body [.ExceptHandler (some (.Name x np)) (some n) [.Assign [.Name y p1] (.Name n p2) p3] hp] [] [] pos) (upS G (sTryK errs b xc i j)) := by
  obtain ⟨Cx, g, ex⟩ := E.ex
  refine PS.imp (ps_tryM (l := [(.ref Cx, some i, fun _ _ _ => tAsg (tVar i) (gName j))]) hst hfr hN takes_none5 (fun W pn xe tk _ => hb W pn xe tk) (.as ⟨hg, hdb, .inl (hx ▸ g)⟩ hi hl (fun a oe _ _ pn _ _ => hs a oe pn) .nil)) fun D σ H ⟨px, Z, s, D3, fm, h, k⟩ => ?_
  refine ⟨px, Z, s, D3, _, fm, h, k, fun s' c fs h' cls od σ' Z' H' e' f' xr => ?_⟩
  dsimp only at h'
  split at h'
  · rename_i si sj hc hsub hi' hj'
    have xr0 := xr
    obtain ⟨C, x1, x2, x3⟩ := xr
    rw [hM] at x1
    refine ⟨true, by rw [x2, ← hsub]; exact ex _ (hasN_mem hc) C x1, fun _ a na => ?_, fun hb => by cases hb⟩
    obtain ⟨Z2, e2, f2⟩ := keep_in (i := i) (j := j) f' xr0 na (List.getElem?_eq_some_iff.mp hj').1
    have hli := (List.getElem?_eq_some_iff.mp hi').1
    have hlj := (List.getElem?_eq_some_iff.mp hj').1
    subst x2
    exact ⟨.ref a, by show (σ'.set i (some (V.ref a)))[i]? = _; rw [List.getElem?_set_self (by rw [f'.len]; exact hli)], .inr ⟨na, k.nx _ h' _ Z2 _ (e'.trans e2) f2⟩⟩
  · exact h'.elim
end
end G69
namespace G69
open PySem PySem.Spec PyProof.Rows L2
/-! ### xs.count(y), flat items -/
section
variable {X : Cx}
def rCntF (K : PySem.W.Frag) : V → List V → Hp → VK → Prop := fun x xs H Q => ∃ (p : Addr) (ys : List V) (y : V), x = .ref p ∧ xs = [y] ∧ SqL K H p ys ∧ flatV y = true ∧ ys.all flatV = true ∧ Q (.int (ys.countP fun z => eqV z y : Nat)) H
theorem count_vals {y : V} : ∀ {ys : List V} {us : List Value}, Vals ys us → ys.all flatV = true → us.countP (eqU y) = ys.countP fun z => eqV z y
  | _, _, .nil, _ => rfl
  | z :: ys, u :: us, .cons r t, f => by
    rw [List.all_cons, Bool.and_eq_true] at f
    rw [List.countP_cons, List.countP_cons, count_vals t f.2, eqU_of r f.1]
theorem mt_countF : MtR X "list.count" (rCntF X.K) := by
  intro pins s σ H x xs v us Q I rx rxs h
  obtain ⟨p, ys, y, rfl, rfl, hs, fy, fys, q⟩ := h
  cases rx
  obtain ⟨uy, rfl, ry⟩ := rxs.one
  obtain ⟨its, rv, ⟨⟨cls, dd, data, sl⟩, n, ho, hc, hdn, hd⟩, hlen⟩ := I.list hs
  simp only at hc hd
  subst hc hd
  refine call_meets PySem.F.slot_list_count ⟨_, ho, rfl⟩ PySem.F.entry_list_count (PySem.F.args_list_count_2 _ _) (SeqAt.list_countAt p its.toArray n dd sl uy (eqU y))
    ⟨ho, fun z hz => mem_eqAt ry fy rv fys z (by simpa using hz), ?_⟩
  refine ⟨.int (ys.countP fun z => eqV z y : Nat), H, I.tok _, ⟨s.toks, ?_⟩, q⟩
  rw [show its.toArray.toList.countP (eqU y) = ys.countP fun z => eqV z y from count_vals rv fys]
def fCntL (ts : List T) : F1 := fun y P => (flatT y = true ∧ ts.all flatT = true) ∧ P (.int (ts.countP fun z => eqV z.fv y.fv : Nat))
theorem q_cntL {G : Gh} {o e : Expr} {ta tb : TE3} {apos cpos : Pos} (hM : G.M = ⟨X.K, X.mg, G.M.D⟩) (ho : PE X o (up G ta)) (he : PE X e (up G tb))
    (hbase : attributeBase o "count" X.env (eval o X.env) = eval o X.env := by rfl)
    (hfew : ((backTo cpos (starEach [e] X.env)).all (fun x => !x.1) && (backToKw cpos (keywordEach [] X.env)).all (fun x => x.1.isSome) && decide ([e].length + ([] : List Keyword).length + (if ([] : List Keyword).isEmpty then 0 else 1) < 30)) = true := by rfl)
    (hline : (apos.endLine == cpos.line) = true := by rfl) (hs : starEach [e] X.env = (false, eval e X.env) :: starEach [] X.env := by rfl) (hplain : (backTo cpos (starEach [] X.env)).any (·.1) = false := by rfl) :
    PE X (.Call (.Attribute o "count" apos) [e] [] cpos) (up G (tMl fCntL ta tb)) :=
  PE.imp (pe_bm PySem.F.plainAttrs_list PySem.F.slot_list_count PySem.F.type_list_count mt_countF ho (pa_cons he pa_nil hs) hbase hfew hline hs hplain) fun σ H Q ⟨px, Z, s, Q3, fm, h, k⟩ => ⟨px, Z, s, _, fm, h, fun x s1 h1 v Z1 H1 e1 f1 r1 => by
    have hK : X.K = G.M.K := by rw [hM]
    rw [hK]
    split at h1
    · rename_i ts
      cases r1 with
      | lst g n r =>
        refine ⟨.inl ⟨rfl, _, .inl (.inl (f1.le _ _ g))⟩, px, Z1, s1, _, f1, h1, fun y s2 hf w Z2 H2 e2 f2 r2 => ?_⟩
        obtain ⟨⟨g1, g2⟩, hf⟩ := hf
        obtain ⟨rfl, q1⟩ := r2.flat g1
        obtain ⟨rfl, q2⟩ := r.flat g2
        refine ⟨_, _, _, rfl, rfl, .inl (.inl (f2.le _ _ (e2 _ _ g))), q1, q2, k _ s2 hf _ Z2 H2 (e1.trans e2) f2 ?_⟩
        rw [List.countP_map]
        exact .int _
    · exact h1.elim⟩
end
end G69
namespace G69
open PySem PySem.Spec PyProof.Rows L2
/-! ### x == (), x a tuple of anything -/
section
variable {X : Cx}
def rEqU (K : PySem.W.Frag) : R2 := fun x y H Q => ∃ (a b : Addr) (xs : List V), x = .ref a ∧ y = .ref b ∧ SqT K H a xs ∧ SqT K H b [] ∧ Q (.bl xs.isEmpty) H
theorem op_eqU (hu : X.A.units + 64 < cLine) : OpR X (compareOp .Eq) (rEqU X.K) := by
  intro pins s σ H x y v u Q I rx ry h
  obtain ⟨a, b, xs, rfl, rfl, h1, h2, q⟩ := h
  cases rx
  cases ry
  obtain ⟨i1, r1, p1, _⟩ := I.tuple h1
  obtain ⟨i2, r2, p2, _⟩ := I.tuple h2
  cases r2
  have e : xs.isEmpty = (((List.range (min i1.toArray.size ([] : List Value).toArray.size)).all fun _ => true) && i1.toArray.size == ([] : List Value).toArray.size) := by
    have := r1.length
    cases xs with
    | nil => cases r1; rfl
    | cons z zs => cases r1; simp
  refine SeqAt.RcAt.tuples (e := fun _ => true) p1 p2 (by omega) (fun j _ h2 => absurd h2 (by simp)) _ _ _ _ ?_
  rw [← e]
  exact ⟨.bl _, H, I, rfl, q⟩
def fEqU : F2 := fun x y P => match x, y with
  | .tup ts, .tup [] => P (.bl ts.isEmpty)
  | _, _ => False
theorem l_eqU {M : Mo} (hK : X.K = M.K) (hu : X.A.units + 64 < cLine) : OpR X (compareOp .Eq) (rEqU M.K) := hK ▸ op_eqU hu
theorem L_eqU {M : Mo} : OpL (rEqU M.K) M fEqU := by
  intro Z H x y tx ty P Q l rx ry h k
  unfold fEqU at h
  split at h
  · cases rx with
    | tup g1 n1 q1 =>
      cases ry with
      | tup g2 n2 q2 =>
        cases q2
        refine ⟨_, _, _, rfl, rfl, .inl (.inl (l _ _ g1)), .inl (.inl (l _ _ g2)), ?_⟩
        rw [← Same.isNil q1]
        exact (k _ h).same l (.bl _)
  · exact h.elim
end
end G69
namespace G69
open PySem PySem.Spec PyProof.Rows L2
/-! ### one's own list lent for a while -/
mutual
def noL : T → Bool
  | .lst _ => false
  | .scr _ => false
  | .err _ _ => false
  | .tup ts => noLs ts
  | .dic _ ts => noLs ts
  | .ins _ ts => noLs ts
  | _ => true
def noLs : List T → Bool
  | [] => true
  | t :: ts => noL t && noLs ts
end
section
variable {M : Mo} {Z : Hp} {a : Addr} {ws : List V}
mutual
theorem Rp.unlend (h : Z a = some (.lst ws)) : ∀ {t : T} {v : V}, Rp M Z t v → noL t = true → Rp M (hid Z a) t v
  | _, _, .non, _ => .non
  | _, _, .bl b, _ => .bl b
  | _, _, .int i, _ => .int i
  | _, _, .str g, _ => .str g
  | _, _, .ty n, _ => .ty n
  | _, _, .lst _ _ _, q => absurd q (by simp [noL])
  | _, _, .tup g n l, q => .tup (by rw [hid_ne (ne_of g h (by intro z; cases z))]; exact g) n (RpL.unlend h l (by rw [noL] at q; exact q))
  | _, _, .dic g n l, q => .dic (by rw [hid_ne (ne_of g h (by intro z; cases z))]; exact g) n (RpL.unlend h l (by rw [noL] at q; exact q))
  | _, _, .ins m g d l, q => .ins m (by rw [hid_ne (ne_of g h (by intro z; cases z))]; exact g) (by rw [hid_ne (ne_of d h (by intro z; cases z))]; exact d) (RpL.unlend h l (by rw [noL] at q; exact q))
  | _, _, .drw g, _ => .drw g
  | _, _, .err _ _ _ _, q => absurd q (by simp [noL])
  | _, _, .scr _, q => absurd q (by simp [noL])
  | _, _, .ob v, _ => .ob v
theorem RpL.unlend (h : Z a = some (.lst ws)) : ∀ {ts : List T} {vs : List V}, RpL M Z ts vs → noLs ts = true → RpL M (hid Z a) ts vs
  | _, _, .nil, _ => .nil
  | _, _, .cons g l, q => by
    rw [noLs, Bool.and_eq_true] at q
    exact .cons (Rp.unlend h g q.1) (RpL.unlend h l q.2)
end
end
def shO : Sl → Sl
  | .sh t => .sh t
  | _ => .no
theorem shO_at {s : S3} {i : Nat} {x : Sl} (h : (s.map shO)[i]? = some x) : x = .no ∨ ∃ t, x = .sh t ∧ s[i]? = some (.sh t) := by
  rw [List.getElem?_map] at h
  cases e : s[i]? with
  | none => rw [e] at h; cases h
  | some y =>
    rw [e] at h
    have h : some (shO y) = some x := h
    cases h
    cases y with
    | sh t => exact .inr ⟨t, rfl, rfl⟩
    | no => exact .inl rfl
    | ow t => exact .inl rfl
/-- the state behind: what was known, and the lent list -/
def lent (s : S3) (i : Nat) (ts : List T) : S3 := (s.map shO).set i (.ow (.lst ts))
section
variable {G : Gh} {px Z H Z' H' : Hp} {σ : L2.St} {s s' : S3}
theorem Fm.lend (f : Fm G px Z H σ s) {i : Nat} {ts : List T} (e : s[i]? = some (.ow (.lst ts))) : ∃ (a : Addr) (vs : List V), σ[i]? = some (some (.ref a)) ∧ Pv G px Z a ∧ H a = some (.lst vs) ∧ Fm G px (upd Z a (.lst vs)) H σ (s.set i (.sh (.lst ts))) := by
  obtain ⟨a, e1, hp, ow⟩ := f.ow i _ e
  have ow2 := ow
  obtain ⟨vs, ho, hn, r⟩ := ow2
  have f1 := (f.drop i).freeze hp (f.dropNot e e1) ho (ow.nt ho)
  have r1 := ow.rp (Same.new hp.1) ho upd_same
  have f2 := f1.shAt e1 r1
  rw [List.set_set] at f2
  exact ⟨a, vs, e1, hp, ho, f2⟩
theorem Fm.unlend (f : Fm G px Z H σ s) {i : Nat} {ts : List T} {a : Addr} {vs : List V} (e : s[i]? = some (.ow (.lst ts))) (hs : σ[i]? = some (some (.ref a))) (hp : Pv G px Z a) (ho : H a = some (.lst vs))
    (e' : Same (upd Z a (.lst vs)) Z') (f' : Fm G px Z' H' σ s') : Same Z (hid Z' a) ∧ Fm G px (hid Z' a) H' σ (lent s i ts) := by
  have hz' : Z' a = some (.lst vs) := e' a _ upd_same
  have zz : Same Z (hid Z' a) := fun b o q => by
    have hb : b ≠ a := ne_of_none q hp.1
    rw [hid_ne hb]
    exact e' b o (by rw [upd_ne hb]; exact q)
  obtain ⟨b, hb, _, ow⟩ := f.ow i _ e
  rw [hs] at hb
  cases hb
  obtain ⟨vs', h1, h2, h3⟩ := ow
  rw [ho] at h1
  cases h1
  have hi : i < s.length := (List.getElem?_eq_some_iff.mp e).1
  refine ⟨zz, {
    le := fun b o q => ?_
    z0 := f.z0.trans zz
    nw := fun b h1 h2 => ?_
    kp := f'.kp
    dr := ?_
    tb := f'.tb
    zt := fun b o q => by
      by_cases hb : b = a
      · subst hb; rw [hid_same] at q; cases q
      · rw [hid_ne hb] at q; exact f'.zt b o q
    h0 := f'.h0
    len := by unfold lent; rw [List.length_set, List.length_map]; exact f.len
    sh := fun j t q => ?_
    ow := fun j t q => ?_
    inj := fun j k b t u q1 q2 g1 g2 => ?_
    px := fun b o q => ?_ }⟩
  · by_cases hb : b = a
    · subst hb; rw [hid_same] at q; cases q
    · rw [hid_ne hb] at q; exact f'.le b o q
  · by_cases hb : b = a
    · subst hb; rw [hid_same] at h2; exact absurd rfl h2
    · rw [hid_ne hb] at h2; exact f'.nw b h1 h2
  · have d := f'.dr
    revert d
    cases G.M.D with
    | none => intro _; trivial
    | some y =>
      obtain ⟨d1, l1, c1⟩ := y
      intro d
      have hn : ∀ b, Z' b = none → hid Z' a b = none := fun b q => by
        unfold hid
        split
        · rfl
        · exact q
      exact ⟨d.1, hn _ d.2.1, hn _ d.2.2.1, hn _ d.2.2.2⟩
  · unfold lent at q
    rcases set_at q with ⟨_, z⟩ | ⟨_, q⟩
    · cases z
    · rcases shO_at q with z | ⟨u, z, q⟩
      · cases z
      · cases z
        obtain ⟨v, g1, g2⟩ := f.sh j _ q
        exact ⟨v, g1, g2.mono zz⟩
  · unfold lent at q
    rcases set_at q with ⟨hj, z⟩ | ⟨_, q⟩
    · cases z
      subst hj
      exact ⟨a, hs, ⟨hid_same, hp.2.1, hp.2.2.1, hp.2.2.2⟩, vs, f'.le a _ hz', h2, h3.mono zz⟩
    · rcases shO_at q with z | ⟨u, z, q⟩ <;> cases z
  · unfold lent at q1 q2
    rcases set_at q1 with ⟨j1, z⟩ | ⟨_, q1⟩
    · rcases set_at q2 with ⟨j2, z⟩ | ⟨_, q2⟩
      · rw [j1, j2]
      · rcases shO_at q2 with z | ⟨u, z, q⟩ <;> cases z
    · rcases shO_at q1 with z | ⟨u, z, q⟩ <;> cases z
  · obtain ⟨g1, g2, g3, g4⟩ := f'.px b o q
    refine ⟨g1, ?_, g3, g4⟩
    unfold hid
    split
    · rfl
    · exact g2
end
def tBor (i : Nat) (te : TE3) : TE3 := fun s Q => match s[i]? with
  | some (.ow (.lst ts)) => te (s.set i (.sh (.lst ts))) fun t _ => noL t = true ∧ Q t (lent s i ts)
  | _ => False
def tBorT (i : Nat) (tt : TT3) : TT3 := fun s Q => match s[i]? with
  | some (.ow (.lst ts)) => tt (s.set i (.sh (.lst ts))) fun b _ => Q b (lent s i ts)
  | _ => False
section
variable {X : Cx} {G : Gh} {e : Expr} {te : TE3} {tt : TT3}
theorem q_bor (i : Nat) (h : PE X e (up G te)) : PE X e (up G (tBor i te)) :=
  PE.imp h fun σ H Q ⟨px, Z, s, Q3, f, h, k⟩ => by
    unfold tBor at h
    split at h
    · rename_i ts e
      obtain ⟨a, vs, e1, hp, ho, f1⟩ := f.lend e
      refine ⟨px, _, _, _, f1, h, fun t s' ⟨hn, hq⟩ v Z' H' e' f' r' => ?_⟩
      obtain ⟨zz, f2⟩ := f.unlend e e1 hp ho e' f'
      exact k t _ hq v (hid Z' a) H' zz f2 (r'.unlend (e' a _ upd_same) hn)
    · exact h.elim
theorem q_borT (i : Nat) (h : PT X e (upT G tt)) : PT X e (upT G (tBorT i tt)) :=
  PT.imp h fun σ H Q ⟨px, Z, s, Q3, f, h, k⟩ => by
    unfold tBorT at h
    split at h
    · rename_i ts e
      obtain ⟨a, vs, e1, hp, ho, f1⟩ := f.lend e
      refine ⟨px, _, _, _, f1, h, fun b s' hq Z' H' e' f' => ?_⟩
      obtain ⟨zz, f2⟩ := f.unlend e e1 hp ho e' f'
      exact k b _ hq (hid Z' a) H' zz f2
    · exact h.elim
end
/-! ### xs + ys as one's own -/
def fCatL : F2 := fun x y P => match x, y with
  | .lst xs, .lst ys => xs.length + ys.length ≤ sizeLine ∧ P (.lst (xs ++ ys))
  | _, _ => False
theorem qf_cat {X : Cx} {G : Gh} {a b : Expr} {ta tb : TE3} {pos : Pos} (ha : PE X a (up G ta)) (hb : PE X b (up G tb)) : PE X (.BinOp a .Add b pos) (upF G (tBin fCatL ta tb)) :=
  PE.imp (pe_op op_cat ha hb) fun σ H Q ⟨px, Z, s, Q3, fm, h, k⟩ => ⟨px, Z, s, _, fm, h, fun x s1 hb1 v Z1 H1 e1 f1 r1 => ⟨px, Z1, s1, _, f1, hb1, fun y s2 hf w Z2 H2 e2 f2 r2 => by
    unfold fCatL at hf
    split at hf
    · have r1' := r1.mono e2
      cases r1' with
      | lst h1 n1 q1 => cases r2 with
        | lst h2 n2 q2 =>
          refine ⟨_, _, _, _, rfl, rfl, f2.le _ _ h1, f2.le _ _ h2, by rw [← q1.len, ← q2.len]; exact hf.1, fun p np => ?_⟩
          obtain ⟨f3, hp, hno⟩ := f2.mute np
          exact k _ s2 hf.2 p Z2 _ (e1.trans e2) f3 hp hno ⟨_, upd_same, by rw [List.length_append]; exact hf.1, q1.app q2⟩
    · exact hf.elim⟩⟩
/-! ### a, b = a new list, any thing -/
def sParFS (i j : Nat) (ta tb : TE3) : TS3 := fun D s => ta s fun x s1 => tb s1 fun y s2 => match s2[i]?, s2[j]? with
  | some _, some _ => D.nx ((s2.set i (.ow x)).set j (.sh y))
  | _, _ => False
def sParSF (i j : Nat) (ta tb : TE3) : TS3 := fun D s => ta s fun x s1 => tb s1 fun y s2 => match s2[i]?, s2[j]? with
  | some _, some _ => D.nx ((s2.set i (.sh x)).set j (.ow y))
  | _, _ => False
section
variable {X : Cx} {G : Gh} {pos : Pos} {i j : Nat} {x y : Str} {e1 e2 : Expr} {ta tb : TE3} {px' py pt : Pos} {kt k2 : Nat} {pt2 : Pos}
theorem q_parFS (hc : X.calm = true) (hN : X.N.Nodup) (hi : X.N[i]? = some x) (hj : X.N[j]? = some y) (hij : i ≠ j)
    (hx : X.env.scope.names.lookup x = some .local) (hy : X.env.scope.names.lookup y = some .local) (ha : PE X e1 (upF G ta)) (hb : PE X e2 (up G tb))
    (hw : swappedStores [.Tuple [.Name x px', .Name y py] kt pt] (.Tuple [e1, e2] k2 pt2) X.env = pure (some [x, y])) (hs : starEach [e1, e2] X.env = (false, eval e1 X.env) :: starEach [e2] X.env := by rfl) (hs2 : starEach [e2] X.env = (false, eval e2 X.env) :: starEach [] X.env := by rfl) :
    PS X (.Assign [.Tuple [.Name x px', .Name y py] kt pt] (.Tuple [e1, e2] k2 pt2) pos) (upS G (sParFS i j ta tb)) :=
  PS.imp (ps_par hc hN hi hj hij hx hy (pa_cons ha (pa_cons hb pa_nil hs2) hs) hw) fun D σ H ⟨px, Z, s, D3, fm, h, k⟩ => ⟨px, Z, s, _, fm, h, fun t s1 ht a Z1 H1 e1 f1 hp hn ow => by
    obtain ⟨o, ho⟩ := ow.at
    refine ⟨_, Z1, s1, _, f1.lay hp hn ho (ow.nt ho), ht, fun u s2 hu b Z2 H2 e2 f2 r2 => ⟨_, _, rfl, ?_⟩⟩
    obtain ⟨f3, hp3, hn3, ho3⟩ := f2.unlay hp.2.2.1
    split at hu
    · rename_i w1 w2 g1 g2
      have li : i < s2.length := (List.getElem?_eq_some_iff.mp g1).1
      have lj : j < s2.length := (List.getElem?_eq_some_iff.mp g2).1
      have f4 := f3.setOw li hp3 hn3 (ow.mono e2 fun o' q => by rw [ho] at q; cases q; exact ho3)
      exact k.nx _ hu _ Z2 H2 (e1.trans e2) (f4.setSh (by rw [List.length_set]; exact lj) r2)
    · exact hu.elim⟩
theorem q_parSF (hc : X.calm = true) (hN : X.N.Nodup) (hi : X.N[i]? = some x) (hj : X.N[j]? = some y) (hij : i ≠ j)
    (hx : X.env.scope.names.lookup x = some .local) (hy : X.env.scope.names.lookup y = some .local) (ha : PE X e1 (up G ta)) (hb : PE X e2 (upF G tb))
    (hw : swappedStores [.Tuple [.Name x px', .Name y py] kt pt] (.Tuple [e1, e2] k2 pt2) X.env = pure (some [x, y])) (hs : starEach [e1, e2] X.env = (false, eval e1 X.env) :: starEach [e2] X.env := by rfl) (hs2 : starEach [e2] X.env = (false, eval e2 X.env) :: starEach [] X.env := by rfl) :
    PS X (.Assign [.Tuple [.Name x px', .Name y py] kt pt] (.Tuple [e1, e2] k2 pt2) pos) (upS G (sParSF i j ta tb)) :=
  PS.imp (ps_par hc hN hi hj hij hx hy (pa_cons ha (pa_cons hb pa_nil hs2) hs) hw) fun D σ H ⟨px, Z, s, D3, fm, h, k⟩ => ⟨px, Z, s, _, fm, h, fun t s1 ht a Z1 H1 e1 f1 r1 => by
    refine ⟨px, Z1, s1, _, f1, ht, fun u s2 hu b Z2 H2 e2 f2 hp2 hn2 ow2 => ⟨_, _, rfl, ?_⟩⟩
    split at hu
    · rename_i w1 w2 g1 g2
      have li : i < s2.length := (List.getElem?_eq_some_iff.mp g1).1
      have lj : j < s2.length := (List.getElem?_eq_some_iff.mp g2).1
      have f4 := f2.setSh li (r1.mono e2)
      refine k.nx _ hu _ Z2 H2 (e1.trans e2) (f4.setOw (by rw [List.length_set]; exact lj) hp2 (fun m t e q => ?_) ow2)
      rcases set_at e with ⟨hm, z⟩ | ⟨hm, e⟩
      · cases z
      · rw [List.getElem?_set_ne (fun z => hm z.symm)] at q
        exact hn2 m t e q
    · exact hu.elim⟩
end
/-! ### len(x), y in x: by the class's own -/
section
variable {X : Cx} {C : Addr} {j k : Nat} {ps : List Str} {sp : Sp}
theorem call_lenO (M : Mth X.prog X.w X.K X.mg X.base C "__len__" ps k sp) (hr : Room j X.A) (hj : k + 1 ≤ j) :
    CallR X (.builtin "len") (fun xs H Q => ∃ a dx fs, xs = [.ref a] ∧ H a = some (.ins C dx fs) ∧ sp [.ref a] H (fun v H' => ∃ n : Int, v = .int n ∧ (0 ≤ n ∧ n < 2 ^ 63) ∧ Q (.int n) H') E0) := by
  intro pins s σ H xs us Q I r h
  obtain ⟨a, dx, fs, rfl, ea, q⟩ := h
  obtain ⟨u, rfl, ru⟩ := vals1 r
  obtain rfl : u = Value.ref a := ru
  obtain ⟨f, fd, F, hm, hbd, hfi⟩ := M
  obtain ⟨mA, O, _⟩ := ins_get I.hok ea
  obtain ⟨od, J, _⟩ := O.look
  obtain ⟨m, hF⟩ := I.fr
  refine PySem.W.len_K hF I.ok.mod.kin J hm.at_ hm.fn (wpAny_mono (run_fn1 (vs := [.ref a]) F (hr.mono hj) hbd I (.cons rfl .nil) q) (fun v s' hv => ?_) fun _ _ z => z)
  obtain ⟨w, H', I', rv, n, rfl, h0, hq⟩ := hv
  obtain ⟨t, rfl⟩ := rv
  exact ⟨h0, .int n, H', I'.tok _, ⟨_, rfl⟩, hq⟩
theorem op_inO (M : Mth X.prog X.w X.K X.mg X.base C "__contains__" ps k sp) (hr : Room j X.A) (hj : k + 1 ≤ j) :
    OpR X (compareOp .In) (fun y x H Q => ∃ a dx fs, x = .ref a ∧ H a = some (.ins C dx fs) ∧ sp [.ref a, y] H (fun v H' => ∃ r, v = .bl r ∧ Q (.bl r) H') E0) := by
  intro pins s σ H y x v u Q I ry rx h
  obtain ⟨a, dx, fs, rfl, ea, q⟩ := h
  obtain rfl : u = Value.ref a := rx
  obtain ⟨f, fd, F, hm, hbd, hfi⟩ := M
  obtain ⟨mA, O, _⟩ := ins_get I.hok ea
  obtain ⟨od, J, _⟩ := O.look
  obtain ⟨m, hF⟩ := I.fr
  have hl : ([Value.ref a, v] ++ []).length = ps.length := by
    rw [← F.len _ _ _ _ q]
    rfl
  refine PySem.W.in_K hF I.ok.mod.kin J hm.at_ hm.fn ?_
  refine wpAny_call (codeAny_mono (F.run X.A X.stack s H ⟨[.ref a, v], []⟩ ([.ref a, v] ++ []) [.ref a, y] _ E0 (hr.mono (by omega)) I.env0 (hbd s [.ref a, v] I.kIn hl) (.cons rfl (.cons ry .nil)) q) fun r s' hq => ?_)
  cases r with
  | error e => exact pass0 pins σ H s e s' I hq
  | ok fl =>
    cases fl with
    | ret w' =>
      obtain ⟨z, H', I', rv, b, ez, hq2⟩ := I.after hq
      subst ez
      cases rv
      exact wpAny_truthy_bool ⟨.bl b, H', I', rfl, hq2⟩
    | next => exact False.elim hq
    | brk => exact False.elim hq
    | cont => exact False.elim hq
end
def fLenI (c : Nat) (sp : Sp3) : FN := fun ts P => match ts with
  | [.ins c1 us] => (match Nat.beq c c1 with
    | true => sp [.ins c1 us] (fun r => match r with
      | .int n => (0 ≤ n ∧ n < 2 ^ 63) ∧ P (.int n)
      | _ => False) E03
    | false => False)
  | _ => False
def fInI (c : Nat) (sp : Sp3) : F2 := fun y x P => match x with
  | .ins c1 us => (match Nat.beq c c1 with
    | true => sp [.ins c1 us, y] (fun r => match r with
      | .bl b => P (.bl b)
      | _ => False) E03
    | false => False)
  | _ => False
section
variable {X : Cx} {G : Gh} {a b e : Expr} {ta tb : TE3} {tA : TA3} {c k j : Nat} {ps : List Str} {sp : Sp3} {pos p : Pos}
theorem q_lenI (hM : G.M = ⟨X.K, X.mg, G.M.D⟩) (M : Mt3 X.prog X.w X.K X.mg X.base c "__len__" ps k sp) (hr : Room j X.A) (hj : k + 1 ≤ j) (hg : Gl X "len") (hm : X.mg "len" = none) (ha : PA X [e] (upA G tA))
    (he : starEach [e] X.env = (false, eval e X.env) :: starEach [] X.env := by rfl) (hpl : (backTo pos (starEach [] X.env)).any (·.1) = false := by rfl) : PE X (.Call (.Name "len" p) [e] [] pos) (up G (tN (fLenI c sp) tA)) := by
  obtain ⟨C, f, fd, g, F, hm', hbd, hf⟩ := M.ex
  refine PE.imp (pe_callB (call_lenO (C := C) (sp := fun vs H Q _ => lift X.K X.mg sp vs H Q E0) ⟨f, fd, FnOk.to0 F, hm', hbd, hf⟩ hr hj) hg hm (by decide +kernel) ha (by decide) (by decide) he hpl) fun σ H Q ⟨px, Z, s, Q3, fm, h, k⟩ => ⟨px, Z, s, _, fm, h, fun ts s1 hf vs Z1 H1 e1 f1 r1 => ?_⟩
  unfold fLenI at hf
  split at hf
  · split at hf
    · rename_i hb
      have ec := Nat.eq_of_beq_eq_true hb
      subst ec
      cases r1 with
      | cons r rr =>
        cases rr
        have r0 := r
        cases r with
        | ins g1 g2 g3 q1 =>
          rw [hM] at g1
          have eC := cfSame g g1
          subst eC
          refine ⟨_, _, _, rfl, f1.le _ _ g2, lift_res hM (f1.toCore.sz hM) f1.dr (.cons r0 .nil) hf fun t ht u Z3 H3 co r3 => ?_⟩
          split at ht
          · cases r3
            exact ⟨_, rfl, ht.1, k _ s1 ht.2 _ Z3 H3 (e1.trans co.z0) (f1.call co (fun _ _ q => q) (fun _ _ q => q) fun a h1 h2 => absurd h1 h2) (.int _)⟩
          · exact ht.elim
    · exact hf.elim
  · exact hf.elim
theorem up_inI (hM : G.M = ⟨X.K, X.mg, G.M.D⟩) {C : Addr} (g : X.mg (cn c) = some (.ref C)) {σ : L2.St} {H : Hp} {Q : VK} (h : up G (tBin (fInI c sp) ta tb) σ H Q) :
    tOp (fun y x H Q => ∃ a dx fs, x = .ref a ∧ H a = some (.ins C dx fs) ∧ lift X.K X.mg sp [.ref a, y] H (fun v H' => ∃ r, v = .bl r ∧ Q (.bl r) H') E0) (up G ta) (up G tb) σ H Q := by
  obtain ⟨px, Z, s, Q3, fm, h, k⟩ := h
  refine ⟨px, Z, s, _, fm, h, fun x s1 hb1 v Z1 H1 e1 f1 r1 => ⟨px, Z1, s1, _, f1, hb1, fun y s2 hf w Z2 H2 e2 f2 r2 => ?_⟩⟩
  unfold fInI at hf
  split at hf
  · split at hf
    · rename_i hb
      have ec := Nat.eq_of_beq_eq_true hb
      subst ec
      have r0 := r2
      cases r2 with
      | ins g1 g2 g3 q1 =>
        rw [hM] at g1
        have eC := cfSame g g1
        subst eC
        refine ⟨_, _, _, rfl, f2.le _ _ g2, lift_res hM (f2.toCore.sz hM) f2.dr (.cons r0 (.cons (r1.mono e2) .nil)) hf fun t ht u Z3 H3 co r3 => ?_⟩
        split at ht
        · cases r3
          exact ⟨_, rfl, k _ s2 ht _ Z3 H3 (e1.trans (e2.trans co.z0)) (f2.call co (fun _ _ q => q) (fun _ _ q => q) fun a h1 h2 => absurd h1 h2) (.bl _)⟩
        · exact ht.elim
    · exact hf.elim
  · exact hf.elim
theorem q_inI (hM : G.M = ⟨X.K, X.mg, G.M.D⟩) (M : Mt3 X.prog X.w X.K X.mg X.base c "__contains__" ps k sp) (hr : Room j X.A) (hj : k + 1 ≤ j) (ha : PE X a (up G ta)) (hb : PE X b (up G tb)) (hm : behindInMarks .In b = false) :
    PE X (.Compare a [.In] [b] pos) (up G (tBin (fInI c sp) ta tb)) := by
  obtain ⟨C, f, fd, g, F, hm', hbd, hf⟩ := M.ex
  exact PE.imp (pe_cmpR (op_inO (C := C) (sp := fun vs H Q _ => lift X.K X.mg sp vs H Q E0) ⟨f, fd, FnOk.to0 F, hm', hbd, hf⟩ hr hj) ha hb hm) fun σ H Q h => up_inI hM g h
end
/-! ### C(e, ..) with what is left out, C(k2 = .., k1 = ..) -/
structure MkD3 (P : Program) (w : World) (K : PySem.W.Frag) (mg : Str → Option Value) (base : Heap) (c : Nat) (ps : List Str) (ds : List T) (k : Nat) (sp : Sp3) : Prop where
  ex : ∃ (C f : Addr) (fd : FuncData) (dv : List V) (du : List Value), mg (cn c) = some (.ref C) ∧ Mk K C f ∧ FnOk P w K mg base (L2.CX P w) k f fd ps (liftI K mg c sp) ∧ Binds K fd ps du ∧ Vals dv du ∧ ∀ M Z, RpL M Z ds dv
structure MkR3 (P : Program) (w : World) (K : PySem.W.Frag) (mg : Str → Option Value) (base : Heap) (c : Nat) (ps ks : List Str) (k : Nat) (sp : Sp3) : Prop where
  ex : ∃ (C f : Addr) (fd : FuncData) (g : List Value → List Value → List Value), mg (cn c) = some (.ref C) ∧ Mk K C f ∧ FnOk P w K mg base (L2.CX P w) k f fd ps (liftI K mg c sp) ∧ KBn K fd ps 1 ks g (fun vs zs => vs ++ zs.reverse)
def tCalD (ds : List T) (sp : Sp3) (E : XK3) (ta : TA3) : TE3 := fun s Q => ta s fun ts s1 => sp (ts ++ ds) (fun t => Q t s1) E
def tCalR (n : Nat) (sp : Sp3) (E : XK3) (ta : TA3) : TE3 := fun s Q => ta s fun ts s1 => match lenIs ts n with
  | true => sp ts.reverse (fun t => Q t s1) E
  | false => False
section
variable {X : Cx} {G : Gh} {e : Expr} {es : List Expr} {kws : List Keyword} {tA : TA3} {c k j : Nat} {ps ks : List Str} {ds : List T} {sp : Sp3} {E3 : XK3} {E : XK} {x : Str} {p pos : Pos}
theorem q_mkD (hM : G.M = ⟨X.K, X.mg, G.M.D⟩) (M : MkD3 X.prog X.w X.K X.mg X.base c ps ds k sp) (hx : cn c = x) (hr : Room j X.A) (hj : k + 1 ≤ j) (hg : Gl X x) (L : Lets X G E3 E) (ha : PA X (e :: es) (upA G tA))
    (hdb : (x == ("__debug__" : Str)) = false := by decide) (he : starEach (e :: es) X.env = (false, eval e X.env) :: starEach es X.env := by rfl) (hpl : (backTo pos (starEach es X.env)).any (·.1) = false := by rfl) :
    PE X (.Call (.Name x p) (e :: es) [] pos) (up G (tCalD ds sp E3 tA)) := by
  obtain ⟨C, f, fd, dv, du, g, mk, F, b, rv, rd⟩ := M.ex
  exact PE.imp (pe_make mk F (hr.mono hj) hg (hx ▸ g) b rv L.pass ha hdb he hpl) fun σ H Q ⟨px, Z, s, Q3, fm, h, k⟩ => ⟨px, Z, s, _, fm, h, fun ts s1 hs vs Z1 H1 e1 f1 r1 y dy hy hdy ne =>
    liftI_in hM g f1 (r1.app (rd _ _)) hs L.imp (fun t ht v Z' H' e' f' r' => k t s1 ht v Z' H' (e1.trans e') f' r') hy hdy ne⟩
theorem q_mkR (hM : G.M = ⟨X.K, X.mg, G.M.D⟩) (M : MkR3 X.prog X.w X.K X.mg X.base c ps ks k sp) (hx : cn c = x) (hr : Room j X.A) (hj : k + 1 ≤ j) (hg : Gl X x) (L : Lets X G E3 E) (hkw : PK X kws (upA G tA))
    (hall : (backToKw pos (keywordEach kws X.env)).all (·.1.isSome) = true := by rfl) (hks : (backToKw pos (keywordEach kws X.env)).filterMap (·.1) = ks := by rfl) (hdb : (x == ("__debug__" : Str)) = false := by decide)
    (hpl : ((backTo pos (starEach [] X.env)).any (·.1) || (backToKw pos (keywordEach kws X.env)).any (·.1.isNone)) = false := by rfl) :
    PE X (.Call (.Name x p) [] kws pos) (up G (tCalR ks.length sp E3 tA)) := by
  obtain ⟨C, f, fd, g', g, mk, F, b⟩ := M.ex
  exact PE.imp (pe_makeK0 (ks := ks) mk F (hr.mono hj) hg (hx ▸ g) b L.pass hkw hall hks hdb hpl) fun σ H Q ⟨px, Z, s, Q3, fm, h, k⟩ => ⟨px, Z, s, _, fm, h, fun ts s1 hs vs Z1 H1 e1 f1 r1 => by
    split at hs
    · rename_i hl
      exact ⟨rfl, by rw [← r1.len]; exact lenIs_eq hl, fun y dy hy hdy ne => liftI_in hM g f1 r1.rev hs L.imp (fun t ht v Z' H' e' f' r' => k t s1 ht v Z' H' (e1.trans e') f' r') hy hdy ne⟩
    · exact hs.elim⟩
end
end G69
namespace G69
open PySem PySem.Spec PyProof.Rows L2
/-! ### xs.insert(i, y), xs[i] = y, xs one's own -/
def sIns (i : Nat) (ta : TA3) : TS3 := fun D s => match s[i]? with
  | some (.ow (.lst _)) => ta s fun ys s1 => (match ys, s1[i]? with
    | [.int j, y], some (.ow (.lst ts)) => (0 ≤ j ∧ j < 2 ^ 63 ∧ ts.length ≤ 1000000) ∧ D.nx (s1.set i (.ow (.lst (ts.take j.toNat ++ [y] ++ ts.drop j.toNat))))
    | _, _ => False)
  | _ => False
def sSetAt (i : Nat) (te ti : TE3) : TS3 := fun D s => te s fun y s1 => match s1[i]? with
  | some (.ow (.lst _)) => ti s1 fun k s2 => (match k, s2[i]? with
    | .int j, some (.ow (.lst ts)) => ∃ n, ixN ts.length j = some n ∧ D.nx (s2.set i (.ow (.lst (ts.set n y))))
    | _, _ => False)
  | _ => False
section
variable {X : Cx} {G : Gh} {e e1 e2 : Expr} {te ti : TE3} {ta : TA3} {pos : Pos}
theorem q_ins (i : Nat) {x : Str} {p1 apos cpos : Pos} (he : PA X [e1, e2] (upA G ta)) (hN : X.N[i]? = some x := by rfl) (hv : Vis X.env.scope x := by first | exact Or.inl rfl | exact Or.inr (Or.inl rfl) | exact Or.inr (Or.inr rfl)) (hd : (x == ("__debug__" : Str)) = false := by decide)
    (hcd : (x == ("__classdict__" : Str)) = false := by decide)
    (hbase : attributeBase (.Name x p1) "insert" X.env (eval (.Name x p1) X.env) = eval (.Name x p1) X.env := by rfl)
    (hfew : ((backTo cpos (starEach [e1, e2] X.env)).all (fun x => !x.1) && (backToKw cpos (keywordEach [] X.env)).all (fun x => x.1.isSome) && decide ([e1, e2].length + ([] : List Keyword).length + (if ([] : List Keyword).isEmpty then 0 else 1) < 30)) = true := by rfl)
    (hline : (apos.endLine == cpos.line) = true := by rfl) (hs : starEach [e1, e2] X.env = (false, eval e1 X.env) :: starEach [e2] X.env := by rfl) (hplain : (backTo cpos (starEach [e2] X.env)).any (·.1) = false := by rfl)
    (hsw : swapsWith (.Call (.Attribute (.Name x p1) "insert" apos) [e1, e2] [] cpos) none pos.line X.env = pure false := by rfl) :
    PS X (.Expr (.Call (.Attribute (.Name x p1) "insert" apos) [e1, e2] [] cpos) pos) (upS G (sIns i ta)) :=
  PS.imp (ps_expr (pe_bm PySem.F.plainAttrs_list PySem.F.slot_list_insert PySem.F.type_list_insert mt_insert (pv i hN hv hd hcd) he hbase hfew hline hs hplain) hsw) fun D σ H ⟨px, Z, s, D3, fm, h, k⟩ => by
    unfold sIns at h
    split at h
    · rename_i ts0 e0
      obtain ⟨a, vs, h1, h2, h3, h4⟩ := fm.ownL e0
      refine ⟨_, h1, .inl ⟨rfl, _, .inl (.inl h2)⟩, px, Z, s, _, fm, h, fun ys s1 hy ws Z1 H1 e1 f1 r1 => ?_⟩
      split at hy
      · rename_i j y ts e2
        obtain ⟨⟨c1, c2, c3⟩, hy⟩ := hy
        obtain ⟨a', vs', g1, g2, g3, g4⟩ := f1.ownL e2
        rw [h1] at g1
        cases g1
        cases r1 with
        | cons ra rr =>
          cases ra
          cases rr with
          | cons rb rr =>
            cases rr
            refine ⟨a, vs', j, _, rfl, rfl, g2, by rw [← g4.len]; exact Nat.lt_of_le_of_lt c3 (by decide), c1, c2, ?_⟩
            refine k.nx _ hy σ Z1 _ e1 (f1.put e2 h1 ⟨_, upd_same, ?_, ((g4.take _).app (.cons rb .nil)).app (g4.drop _)⟩)
            rw [List.length_append, List.length_append, List.length_take, List.length_drop]
            exact Nat.le_trans (m := 1000001) (by simp only [List.length_cons, List.length_nil]; omega) (by decide)
      · exact hy.elim
    · exact h.elim
theorem q_setAt (i : Nat) {x : Str} {p1 p2 : Pos} (he : PE X e (up G te)) (hi : PE X e1 (up G ti)) (hN : X.N[i]? = some x := by rfl) (hv : Vis X.env.scope x := by first | exact Or.inl rfl | exact Or.inr (Or.inl rfl) | exact Or.inr (Or.inr rfl)) (hd : (x == ("__debug__" : Str)) = false := by decide)
    (hcd : (x == ("__classdict__" : Str)) = false := by decide)
    (ha : ∀ v, assign (.Subscript (.Name x p1) e1 p2) X.env v = (do
      let ov ← holding [v] (eval (.Name x p1) X.env)
      let iv ← holding [v, ov] (eval e1 X.env)
      standAt p2
      holding [v, ov, iv] (setItem ov iv v)
      release [v, ov, iv] []) := by intro _; rfl)
    (hs : swapsWithSole [.Subscript (.Name x p1) e1 p2] e pos.line X.env = pure false := by rfl) (hw : swappedStores [.Subscript (.Name x p1) e1 p2] e X.env = pure none := by rfl)
    (h1 : (assignEach [.Subscript (.Name x p1) e1 p2] X.env).map (·.2) = [assign (.Subscript (.Name x p1) e1 p2) X.env] := by rfl) :
    PS X (.Assign [.Subscript (.Name x p1) e1 p2] e pos) (upS G (sSetAt i te ti)) :=
  PS.imp (ps_asg he (pg_sub (pv i hN hv hd hcd) hi set_list ha) hs hw h1) fun D σ H ⟨px, Z, s, D3, fm, h, k⟩ => ⟨px, Z, s, _, fm, h, fun y s1 hy v Z1 H1 e1 f1 r1 => by
    split at hy
    · rename_i ts0 e0
      obtain ⟨a, vs, g1, g2, g3, g4⟩ := f1.ownL e0
      refine ⟨_, g1, px, Z1, s1, _, f1, hy, fun kk s2 hk w Z2 H2 e2 f2 r2 => ?_⟩
      split at hk
      · rename_i j ts e3
        obtain ⟨n, hn, hk⟩ := hk
        obtain ⟨a', vs', q1, q2, q3, q4⟩ := f2.ownL e3
        rw [g1] at q1
        cases q1
        cases r2
        refine ⟨a, vs', j, n, rfl, rfl, q2, by rw [← q4.len]; exact hn, ?_⟩
        exact k.nx _ hk σ Z2 _ (e1.trans e2) (f2.put e3 g1 ⟨_, upd_same, by rw [List.length_set]; exact q3, q4.set (r1.mono e2) n⟩)
      · exact hk.elim
    · exact hy.elim⟩
end
/-! ### a, b, c = any, any, a new list -/
def sPar3F (i j l : Nat) (ta tb tc : TE3) : TS3 := fun D s => ta s fun x s1 => tb s1 fun y s2 => tc s2 fun z s3 => match s3[i]?, s3[j]?, s3[l]? with
  | some _, some _, some _ => D.nx (((s3.set i (.sh x)).set j (.sh y)).set l (.ow z))
  | _, _, _ => False
theorem q_par3F {X : Cx} {G : Gh} {pos : Pos} {i j l : Nat} {x y z : Str} {e1 e2 e3 : Expr} {ta tb tc : TE3} {px' py pz pt : Pos} {kt k2 : Nat} {pt2 : Pos} (hc : X.calm = true) (hN : X.N.Nodup) (hi : X.N[i]? = some x) (hj : X.N[j]? = some y) (hl : X.N[l]? = some z) (hij : i ≠ j) (hil : i ≠ l) (hjl : j ≠ l)
    (hx : X.env.scope.names.lookup x = some .local) (hy : X.env.scope.names.lookup y = some .local) (hz : X.env.scope.names.lookup z = some .local) (ha : PE X e1 (up G ta)) (hb : PE X e2 (up G tb)) (hc' : PE X e3 (upF G tc))
    (hw : swappedStores [.Tuple [.Name x px', .Name y py, .Name z pz] kt pt] (.Tuple [e1, e2, e3] k2 pt2) X.env = pure (some [x, y, z]))
    (hs : swapsWithSole [.Tuple [.Name x px', .Name y py, .Name z pz] kt pt] (.Tuple [e1, e2, e3] k2 pt2) pos.line X.env = pure false := by rfl)
    (hs1 : starEach [e1, e2, e3] X.env = (false, eval e1 X.env) :: starEach [e2, e3] X.env := by rfl) (hs2 : starEach [e2, e3] X.env = (false, eval e2 X.env) :: starEach [e3] X.env := by rfl) (hs3 : starEach [e3] X.env = (false, eval e3 X.env) :: starEach [] X.env := by rfl) :
    PS X (.Assign [.Tuple [.Name x px', .Name y py, .Name z pz] kt pt] (.Tuple [e1, e2, e3] k2 pt2) pos) (upS G (sPar3F i j l ta tb tc)) :=
  PS.imp (ps_par3 hc hN hi hj hl hij hil hjl hx hy hz (pa_cons ha (pa_cons hb (pa_cons hc' pa_nil hs3) hs2) hs1) hw hs) fun D σ H ⟨px, Z, s, D3, fm, h, k⟩ => ⟨px, Z, s, _, fm, h, fun t s1 ht a Z1 H1 e1 f1 r1 => by
    refine ⟨px, Z1, s1, _, f1, ht, fun u s2 hu b Z2 H2 e2 f2 r2 => ⟨px, Z2, s2, _, f2, hu, fun v s3 hv c Z3 H3 e3 f3 hp3 hn3 ow3 => ⟨_, _, _, rfl, ?_⟩⟩⟩
    split at hv
    · rename_i w1 w2 w3 g1 g2 g3
      have li : i < s3.length := (List.getElem?_eq_some_iff.mp g1).1
      have lj : j < s3.length := (List.getElem?_eq_some_iff.mp g2).1
      have ll : l < s3.length := (List.getElem?_eq_some_iff.mp g3).1
      have f4 := (f3.setSh li (r1.mono (e2.trans e3))).setSh (i := j) (by rw [List.length_set]; exact lj) (r2.mono e3)
      refine k.nx _ hv _ Z3 H3 (e1.trans (e2.trans e3)) (f4.setOw (by rw [List.length_set, List.length_set]; exact ll) hp3 (fun m t e q => ?_) ow3)
      rcases set_at e with ⟨hm, zz⟩ | ⟨hm, e⟩
      · cases zz
      · rcases set_at e with ⟨hm2, zz⟩ | ⟨hm2, e⟩
        · cases zz
        · rw [List.getElem?_set_ne (fun z => hm z.symm), List.getElem?_set_ne (fun z => hm2 z.symm)] at q
          exact hn3 m t e q
    · exact hv.elim⟩
/-! ### C(e, ..) with what is left out, within a try -/
theorem Binds.kbn {K : PySem.W.Frag} {fd : FuncData} {ps : List Str} {du : List Value} {dv : List V} {n : Nat} (b : Binds K fd ps du) (r : Vals dv du) (hn : n + du.length = ps.length) : KBn K fd ps n [] (fun us _ => us ++ du) (fun vs _ => vs ++ dv) where
  to := fun s us ws X l1 _ => b s us X (by rw [List.length_append, l1]; exact hn)
  rel := fun r1 _ => r1.append r
def xCalD (n : Nat) (ds : List T) (sp : Sp3) (ta : TA3) : TX3 := fun s Q E => ta s fun ts s1 => match lenIs ts n with
  | true => sp (ts ++ ds) (fun t => Q t s1) (E s1)
  | false => False
theorem qx_mkD {X : Cx} {G : Gh} {W : WX} {e : Expr} {es : List Expr} {tA : TA3} {c k j n : Nat} {ps : List Str} {ds : List T} {sp : Sp3} {x : Str} {p pos : Pos} (hM : G.M = ⟨X.K, X.mg, G.M.D⟩) (M : MkD3 X.prog X.w X.K X.mg X.base c ps ds k sp) (hn : n + 1 + ds.length = ps.length) (hx : cn c = x) (hr : Room j X.A) (hj : k + 1 ≤ j) (hg : Gl X x) (tk : Takes X W) (ha : PA X (e :: es) (upA G tA))
    (hdb : (x == ("__debug__" : Str)) = false := by decide) (he : starEach (e :: es) X.env = (false, eval e X.env) :: starEach es X.env := by rfl) (hpl : (backTo pos (starEach es X.env)).any (·.1) = false := by rfl) :
    PE X (.Call (.Name x p) (e :: es) [] pos) (upX G W (xCalD n ds sp tA)) := by
  obtain ⟨C, f, fd, dv, du, g, mk, F, b, rv, rd⟩ := M.ex
  have hdl : ds.length = du.length := by rw [(rd G.M (fun _ => none)).len, rv.length]
  refine ⟨fun pins s σ H Q I ⟨px, Z, s3, Q3, E3, fm, h, kk, ox⟩ => ?_⟩
  refine wpAny_Call_Name_kw (ld_glob I hg (hx ▸ g) ?_ hdb)
  refine PySem.W.callWith_K (h₀ := X.base) I.ok.mod.kin mk.kp (thn (ha.run pos pins s σ H (fun vs H1 => vs.length = n ∧ ∀ y dy, H1 y = none → H1 dy = none → dy ≠ y → liftI X.K X.mg c sp (.ref y :: (vs ++ dv)) (upd (upd H1 dy (.own y)) y (.ins C dy [])) (fun v H2 => v = .non ∧ Q (.ref y) H2) (WE W σ)) I
    ⟨px, Z, s3, _, fm, h, fun ts s1 hs vs Z1 H1 e1 f1 r1 => ?_⟩) fun us s2 ⟨vs, H2, I2, ru, l2, q2⟩ => ⟨I2.kIn, ?_⟩) he hpl
  · split at hs
    · rename_i hl
      exact ⟨by rw [← r1.len]; exact lenIs_eq hl, fun y dy hy hdy ne => liftI_inX hM g f1 (r1.app (rd _ _)) hs (fun c fs he cls od Z' H' e' f' xr => ox s1 c fs he cls od σ Z' H' (e1.trans e') f' xr) (fun t ht v Z' H' e' f' r' => kk t s1 ht v Z' H' (e1.trans e') f' r') hy hdy ne⟩
    · exact hs.elim
  · exact run_at (ws := []) (zs := []) (ks := []) (n := n) mk F (hr.mono hj) (Binds.kbn b rv (by rw [← hdl]; omega)) (passAt tk σ) I2 ru .nil l2 rfl q2
/-! ### a def that calls itself -/
theorem cal_no {P : Program} {w : World} {K : PySem.W.Frag} {mg : Str → Option Value} {base : Heap} {x : Str} {st : Stmt} {ps : List Str} {k : Nat} (Df : Def3 K mg x st ps) : Cal3 P w K mg base x ps k (fun _ _ _ => False) := by
  obtain ⟨f, fd, F, g, b, kb⟩ := Df.ex
  refine ⟨f, fd, ⟨fun vs H Q E h => ?_, fun A outer s H args us vs Q E hr e0 hb r h => ?_⟩, g, F.kp, b, kb, fun_lk F⟩
  · obtain ⟨D, Z, ts, P3, E3, _, _, _, h, _⟩ := h
    exact h.elim
  · obtain ⟨D, Z, ts, P3, E3, _, _, _, h, _⟩ := h
    exact h.elim
end G69
namespace G69
open PySem PySem.Spec PyProof.Rows L2
/-! ### f(k = v, ..) in another order than the def's -/
def permL {α : Type} (is : List Nat) (l : List α) : List α := is.filterMap fun i => l[i]?
theorem RpL.permL {M : Mo} {Z : Hp} {ts : List T} {vs : List V} (r : RpL M Z ts vs) : ∀ is : List Nat, RpL M Z (permL is ts) (permL is vs)
  | [] => .nil
  | i :: is => by
    unfold G69.permL
    cases e : ts[i]? with
    | none =>
      have e2 : vs[i]? = none := by
        rw [List.getElem?_eq_none_iff] at e ⊢
        rw [← r.len]
        exact e
      rw [List.filterMap_cons_none e, List.filterMap_cons_none e2]
      exact RpL.permL r is
    | some t =>
      obtain ⟨v, e2, h⟩ := r.get e
      rw [List.filterMap_cons_some e, List.filterMap_cons_some e2]
      exact .cons h (RpL.permL r is)
theorem vals_perm {zs : List V} {ws : List Value} (r : Vals zs ws) : ∀ is : List Nat, Vals (permL is zs) (permL is ws)
  | [] => .nil
  | i :: is => by
    unfold permL
    cases e : zs[i]? with
    | none =>
      have e2 : ws[i]? = none := by
        rw [List.getElem?_eq_none_iff] at e ⊢
        rw [← r.length]
        exact e
      rw [List.filterMap_cons_none e, List.filterMap_cons_none e2]
      exact vals_perm r is
    | some t =>
      obtain ⟨v, e2, h⟩ := r.get e
      rw [List.filterMap_cons_some e, List.filterMap_cons_some e2]
      exact .cons h (vals_perm r is)
def tCalKP (n : Nat) (is : List Nat) (sp : Sp3) (E : XK3) (ta : TA3) : TE3 := fun s Q => ta s fun ts s1 => match lenIs ts n with
  | true => sp (permL is ts) (fun t => Q t s1) E
  | false => False
theorem q_kcalP {X : Cx} {G : Gh} {x : Str} {st : Stmt} {ks ps : List Str} {k j : Nat} {sp : Sp3} {kws : List Keyword} {tA : TA3} {p pos : Pos} (is : List Nat) (C : Cal3 X.prog X.w X.K X.mg X.base x ps k sp) (Df : Def3 X.K X.mg x st ps) (hM : G.M = ⟨X.K, X.mg, G.M.D⟩) (hr : Room j X.A) (hj : k ≤ j) (hg : Gl X x) (hkw : PK X kws (upA G tA))
    (hb : ∀ (kV doc pm : Value) (an : Option Addr) (cdv ct : Value) (ws : List Value), ws.length = ks.length → bindArgs (PySem.W.fnOf x x (defArgs st) (defBody st) (defScope st) .none kV doc pm an cdv ct) ⟨[], ks.zip ws⟩ = pure (ps.zip (permL is ws)))
    (hall : (backToKw pos (keywordEach kws X.env)).all (·.1.isSome) = true := by rfl) (hks : (backToKw pos (keywordEach kws X.env)).filterMap (·.1) = ks := by rfl) (hdb : (x == ("__debug__" : Str)) = false := by decide)
    (hpl : ((backTo pos (starEach [] X.env)).any (·.1) || (backToKw pos (keywordEach kws X.env)).any (·.1.isNone)) = false := by rfl) :
    PE X (.Call (.Name x p) [] kws pos) (up G (tCalKP ks.length is sp E03 tA)) := by
  obtain ⟨f, fd, F, hm, kp, _, _, oc, od, osl, lk⟩ := C.ex
  obtain ⟨f2, fd2, F2, hm2, _, _⟩ := Df.ex
  rw [hm] at hm2
  cases hm2
  obtain ⟨oc2, od2, kV, doc, pm, an, cdv, ct, osl2, rfl, lk2, _⟩ := F2.ex
  rw [lk] at lk2
  cases lk2
  have kb : KBn X.K (PySem.W.fnOf x x (defArgs st) (defBody st) (defScope st) .none kV doc pm an cdv ct) ps 0 ks (fun _ ws => permL is ws) (fun _ zs => permL is zs) := ⟨fun s us ws _ l1 l2 => by
    match us, l1 with
    | [], _ => exact .of_eq (hb kV doc pm an cdv ct ws l2), fun _ r => vals_perm r is⟩
  refine PE.imp (pe_kcal (gV := fun zs => permL is zs) (sp := fun vs H Q _ => lift X.K X.mg sp vs H Q E0) ⟨f, _, ps, _, FnOk.to0 F, hm, kp, kb⟩ hr hj hg hkw hall hks hdb hpl) fun σ H Q ⟨px, Z, s, Q3, fm, h, k⟩ => ⟨px, Z, s, _, fm, h, fun ts s1 hs vs Z1 H1 e1 f1 r1 => ?_⟩
  split at hs
  · rename_i hl
    exact ⟨rfl, by rw [← r1.len]; exact lenIs_eq hl, lift_in hM f1 (r1.permL is) hs (fun _ _ h => h.elim) fun t ht v Z' H' e' f' r' => k t s1 ht v Z' H' (e1.trans e') f' r'⟩
  · exact hs.elim
end G69
namespace G69
open PySem PySem.Spec PyProof.Rows L2
/-! ### x != [], x a list of anything -/
section
variable {X : Cx}
def rNeU (K : PySem.W.Frag) : R2 := fun x y H Q => ∃ (a b : Addr) (xs : List V), x = .ref a ∧ y = .ref b ∧ SqL K H a xs ∧ SqL K H b [] ∧ Q (.bl (!xs.isEmpty)) H
theorem op_neU (hu : X.A.units + 64 < cLine) : OpR X (compareOp .NotEq) (rNeU X.K) := by
  intro pins s σ H x y v u Q I rx ry h
  obtain ⟨a, b, xs, rfl, rfl, h1, h2, q⟩ := h
  cases rx
  cases ry
  obtain ⟨i1, r1, p1, _⟩ := I.list h1
  obtain ⟨i2, r2, p2, _⟩ := I.list h2
  cases r2
  cases xs with
  | nil =>
    cases r1
    exact SeqAt.RcNeAt.lists (e := fun _ => true) p1.isList p2.isList rfl (by omega) (fun j h1 _ => absurd h1 (by simp)) _ _ _ _ ⟨.bl _, H, I, rfl, q⟩
  | cons z zs =>
    cases r1
    exact SeqAt.RcNeAt.lists_lengths p1.isList p2.isList (by simp) (by omega) _ _ _ _ ⟨.bl _, H, I, rfl, q⟩
def fNeU : F2 := fun x y P => match x, y with
  | .lst ts, .lst [] => P (.bl (!ts.isEmpty))
  | _, _ => False
theorem l_neU {M : Mo} (hK : X.K = M.K) (hu : X.A.units + 64 < cLine) : OpR X (compareOp .NotEq) (rNeU M.K) := hK ▸ op_neU hu
theorem L_neU {M : Mo} : OpL (rNeU M.K) M fNeU := by
  intro Z H x y tx ty P Q l rx ry h k
  unfold fNeU at h
  split at h
  · cases rx with
    | lst g1 n1 q1 =>
      cases ry with
      | lst g2 n2 q2 =>
        cases q2
        refine ⟨_, _, _, rfl, rfl, .inl (.inl (l _ _ g1)), .inl (.inl (l _ _ g2)), ?_⟩
        rw [← Same.isNil q1]
        exact (k _ h).same l (.bl _)
  · exact h.elim
/-! ### x != (), x a tuple of anything -/
def rNeV (K : PySem.W.Frag) : R2 := fun x y H Q => ∃ (a b : Addr) (xs : List V), x = .ref a ∧ y = .ref b ∧ SqT K H a xs ∧ SqT K H b [] ∧ Q (.bl (!xs.isEmpty)) H
theorem op_neV (hu : X.A.units + 64 < cLine) : OpR X (compareOp .NotEq) (rNeV X.K) := by
  intro pins s σ H x y v u Q I rx ry h
  obtain ⟨a, b, xs, rfl, rfl, h1, h2, q⟩ := h
  cases rx
  cases ry
  obtain ⟨i1, r1, p1, _⟩ := I.tuple h1
  obtain ⟨i2, r2, p2, _⟩ := I.tuple h2
  cases r2
  have e : (!xs.isEmpty) = !(((List.range (min i1.toArray.size ([] : List Value).toArray.size)).all fun _ => true) && i1.toArray.size == ([] : List Value).toArray.size) := by
    have := r1.length
    cases xs with
    | nil => cases r1; rfl
    | cons z zs => cases r1; simp
  refine SeqAt.RcNeAt.tuples (e := fun _ => true) p1 p2 (by omega) (fun j _ h2 => absurd h2 (by simp)) _ _ _ _ ?_
  rw [← e]
  exact ⟨.bl _, H, I, rfl, q⟩
def fNeV : F2 := fun x y P => match x, y with
  | .tup ts, .tup [] => P (.bl (!ts.isEmpty))
  | _, _ => False
theorem l_neV {M : Mo} (hK : X.K = M.K) (hu : X.A.units + 64 < cLine) : OpR X (compareOp .NotEq) (rNeV M.K) := hK ▸ op_neV hu
theorem L_neV {M : Mo} : OpL (rNeV M.K) M fNeV := by
  intro Z H x y tx ty P Q l rx ry h k
  unfold fNeV at h
  split at h
  · cases rx with
    | tup g1 n1 q1 =>
      cases ry with
      | tup g2 n2 q2 =>
        cases q2
        refine ⟨_, _, _, rfl, rfl, .inl (.inl (l _ _ g1)), .inl (.inl (l _ _ g2)), ?_⟩
        rw [← Same.isNil q1]
        exact (k _ h).same l (.bl _)
  · exact h.elim
end
end G69
namespace G69
open PySem PySem.Spec PyProof.Rows L2
/-! ### zip of a list or a tuple with a list or a tuple -/
def Sqx (K : PySem.W.Frag) (b : Bool) (H : Hp) (a : Addr) (xs : List V) : Prop := match b with
  | true => SqT K H a xs
  | false => SqL K H a xs
def Isx (b : Bool) (h : Heap) (a : Addr) (us : Array Value) : Prop := match b with
  | true => h.IsTuple a us
  | false => h.IsList a us
def Itx (b : Bool) (h : Heap) (it a : Addr) (i : Nat) : Prop := match b with
  | true => h.IsTupleIter it a i
  | false => h.IsListIter it a i
def obx (b : Bool) (a : Addr) : Obj := match b with
  | true => { cls := .type "tuple_iterator", data := .fields #[.ref a, .int 0 0] }
  | false => { cls := .type "list_iterator", data := .fields #[.ref a, .int 0 0] }
section
variable {h h' : Heap} {it a : Addr} {i : Nat} {us : Array Value} {b : Bool}
theorem Itx.obj (x : Itx b h it a i) : ∃ o vs, h.get? it = some o ∧ o.data = .fields vs := by
  cases b
  · obtain ⟨o, e, _, d⟩ := (show h.IsListIter it a i from x)
    exact ⟨o, _, e, d⟩
  · obtain ⟨o, e, _, d⟩ := (show h.IsTupleIter it a i from x)
    exact ⟨o, _, e, d⟩
theorem Itx.to (x : Itx b h it a i) (k : ∀ o, h.get? it = some o → h'.get? it = some o) : Itx b h' it a i := by
  cases b
  · exact Heap.IsListIter.at (show h.IsListIter it a i from x) k
  · exact Heap.IsTupleIter.at (show h.IsTupleIter it a i from x) k
theorem Isx.lt (x : Isx b h a us) : a < h.objs.size := by
  cases b
  · obtain ⟨o, e, _⟩ := (show h.IsList a us from x)
    exact Heap.lt_size e
  · obtain ⟨o, e, _⟩ := (show h.IsTuple a us from x)
    exact Heap.lt_size e
theorem obx_it (e : h.get? it = some (obx b a)) : Itx b h it a 0 := by
  cases b
  · exact ⟨_, e, rfl, rfl⟩
  · exact ⟨_, e, rfl, rfl⟩
theorem begins_x (b : Bool) (a : Addr) (us : Array Value) : Begins (.ref a) (obx b a) fun h => Isx b h a us := by
  cases b
  · exact begins_list a us
  · exact begins_tuple a us
theorem draws_x {prog : Program} {w : World} {A : Around} (hh : A.handled = none) (b : Bool) (it a : Addr) (hne : a ≠ it) (us : Array Value) : Draws prog w A it [it, a] us.size (fun i v => us[i]? = some v) (fun i h => Itx b h it a i ∧ Isx b h a us) := by
  cases b
  · exact Draws.list hh it a hne us
  · exact Draws.tuple hh it a hne us
end
theorem inv_x {X : Cx} {pins : List (Addr × Obj)} {σ : L2.St} {H : Hp} {s : Shared} (I : Inv X pins σ H s) {b : Bool} {a : Addr} {xs : List V} (q : Sqx X.K b H a xs) : ∃ its : List Value, Vals xs its ∧ Isx b s.heap a its.toArray := by
  cases b
  · obtain ⟨its, rv, p, _⟩ := I.list q
    exact ⟨its, rv, p.isList⟩
  · obtain ⟨its, rv, p, _⟩ := I.tuple q
    exact ⟨its, rv, p⟩
theorem inj_x {X : Cx} {pins : List (Addr × Obj)} {σ : L2.St} {H : Hp} {s : Shared} (I : Inv X pins σ H s) {b : Bool} {a : Addr} {xs ys : List V} (q : Sqx X.K b H a xs) (r : Sqx X.K b H a ys) : xs = ys := by
  cases b
  · exact I.list_inj q r
  · exact I.tuple_inj q r
/-- the rows at a and b as they stand at each turn -/
def ItzX (K : PySem.W.Frag) (b c : Bool) (p q : Addr) : It :=
  ⟨fun i H => ∃ xs ys x y, (Sqx K b H p xs ∧ xs[i]? = some x) ∧ Sqx K c H q ys ∧ ys[i]? = some y,
    fun i H v H' => ∃ T x y, (v = .ref T ∧ H T = none ∧ H' = upd H T (.tup [x, y])) ∧ (∀ xs, Sqx K b H p xs → xs[i]? = some x) ∧ ∀ ys, Sqx K c H q ys → ys[i]? = some y,
    fun i H => ∃ xs ys, (Sqx K b H p xs ∧ Sqx K c H q ys) ∧ (i ≤ xs.length ∧ i ≤ ys.length) ∧ (i = xs.length ∨ i = ys.length)⟩
structure ZCells (z TI TO i1 i2 : Addr) (h : Heap) (b c : Bool) (p q : Addr) (i : Nat) : Prop where
  hz : IsZip h z TI TO .none
  hi : IsTupOf2 h TI (.ref i1) (.ref i2)
  ho : ∃ x y, IsTupOf2 h TO x y
  h1 : Itx b h i1 p i
  h2 : Itx c h i2 q i
theorem five {c z TI TO i1 i2 : Addr} (h : c ∈ [z, TI, TO, i1, i2]) : c = z ∨ c = TI ∨ c = TO ∨ c = i1 ∨ c = i2 := by simpa using h
theorem turn_zipX {P : Program} {w : World} {K : PySem.W.Frag} {elts : List Expr} {kk : Nat} {tpos : Pos} {b c : Bool} {p q z TI TO i1 i2 : Addr} (S : ZipSep2 z TI TO i1 i2 [i1, p] [i2, q]) (n1 : p ≠ i1) (n2 : q ≠ i2) :
    Turn P w K (.Tuple elts kk tpos) (ItzX K b c p q) [z, TI, TO, i1, i2] z (fun i h => ZCells z TI TO i1 i2 h b c p q i) where
  mem := List.mem_cons_self
  obj := fun i h st d hd => by
    obtain ⟨x, y, ho⟩ := st.ho
    obtain ⟨o1, vs1, e1, d1⟩ := st.h1.obj
    obtain ⟨o2, vs2, e2, d2⟩ := st.h2.obj
    rcases five hd with e | e | e | e | e <;> subst e
    · exact ⟨_, st.hz, fun v g => nomatch g⟩
    · exact ⟨_, st.hi, fun v g => nomatch g⟩
    · exact ⟨_, ho, fun v g => nomatch g⟩
    · exact ⟨o1, e1, fun v g => by rw [d1] at g; cases g⟩
    · exact ⟨o2, e2, fun v g => by rw [d2] at g; cases g⟩
  keep := fun i h h' st k => by
    obtain ⟨x, y, ho⟩ := st.ho
    exact ⟨k z (by simp) _ st.hz, k TI (by simp) _ st.hi, ⟨x, y, k TO (by simp) _ ho⟩, st.h1.to fun o => k i1 (by simp) o, st.h2.to fun o => k i2 (by simp) o⟩
  item := by
    intro X hP hw hK hc i pins s σ H E I hf st hg
    subst hP hw hK
    obtain ⟨x0, y0, hTO⟩ := st.ho
    obtain ⟨xs, ys, x, y, ⟨gx, hx⟩, gy, hy⟩ := hg
    obtain ⟨us, rv, px⟩ := inv_x I gx
    obtain ⟨vs, rw', py⟩ := inv_x I gy
    obtain ⟨u, hu, ru⟩ := rv.get hx
    obtain ⟨v, hv, rv2⟩ := rw'.get hy
    have lu : i < us.toArray.size := by rw [List.size_toArray]; exact (List.getElem?_eq_some_iff.mp hu).1
    have lv : i < vs.toArray.size := by rw [List.size_toArray]; exact (List.getElem?_eq_some_iff.mp hv).1
    have hd : X.A.in1.handled = none := I.ok.hd hc
    have zl := Heap.lt_size st.hz
    refine wpAny_pyNext_zipD2_item S (draws_x hd b i1 p n1 us.toArray) (draws_x hd c i2 q n2 vs.toArray) st.hz st.hi hTO ⟨st.h1, px⟩ ⟨st.h2, py⟩ lu lv fun a1 a2 h' tk e1 e2 z' TO' k1 k2 hT hsz hk => ?_
    have ea : a1 = u := Option.some.inj (e1.symm.trans (by simpa using hu))
    have eb : a2 = v := Option.some.inj (e2.symm.trans (by simpa using hv))
    subst ea; subst eb
    refine ⟨_, rfl, wpAny_letOwnedTupleGo_zip (s := { s with heap := h', toks := tk }) z' fun h2 z2 sb => ?_⟩
    have up : ∀ d o, d ∉ [z, TI, TO, i1, i2] → s.heap.get? d = some o → h2.get? d = some o := fun d o hd e => by
      simp only [List.mem_cons, List.not_mem_nil, or_false, not_or] at hd
      exact (sb.2 d hd.1).trans (hk d o hd.1 hd.2.2.1 hd.2.2.2.1 hd.2.2.2.2 e)
    have hT2 : IsTupOf2 h2 s.heap.objs.size a1 a2 := (sb.2 _ (Nat.ne_of_gt zl)).trans hT
    have new : ObjOk X.prog X.w (upd H s.heap.objs.size (.tup [x, y])) h2 s.heap.objs.size (.tup [x, y]) := ⟨by show 2 ≤ sizeLine; decide, [a1, a2], .cons ru (.cons rv2 .nil), ⟨_, hT2, rfl, _, rfl⟩⟩
    have J : Inv X pins σ (upd H s.heap.objs.size (.tup [x, y])) { s with heap := h2, toks := tk } := I.turnedNew (t' := tk) (ch := [z, TI, TO, i1, i2]) up hf (Nat.le_refl _) new
    refine ⟨.ref s.heap.objs.size, _, J, rfl, ⟨_, x, y, ⟨rfl, I.hok.fresh (Nat.le_refl _), rfl⟩, fun l g => by rw [inj_x I g gx]; exact hx, fun l g => by rw [inj_x I g gy]; exact hy⟩, ⟨z2, ?_, ⟨a1, a2, ?_⟩, ?_, ?_⟩, fun d hd => ?_⟩
    · exact (sb.2 _ S.TIz).trans (hk _ _ S.TIz S.TITO S.TIi1 S.TIi2 st.hi)
    · exact (sb.2 _ S.TOz).trans TO'
    · exact k1.1.to fun o e => (sb.2 _ S.zi1.symm).trans e
    · exact k2.1.to fun o e => (sb.2 _ S.zi2.symm).trans e
    · have lt : d < s.heap.objs.size := by
        obtain ⟨o1, _, e1, _⟩ := st.h1.obj
        obtain ⟨o2, _, e2, _⟩ := st.h2.obj
        rcases five hd with e | e | e | e | e <;> subst e
        · exact zl
        · exact Heap.lt_size st.hi
        · exact Heap.lt_size hTO
        · exact Heap.lt_size e1
        · exact Heap.lt_size e2
      rw [upd_ne (Nat.ne_of_lt lt)]
      exact (hf d hd).1
  done := by
    intro X hP hw hK hc i pins s σ H E I hf st hg
    subst hP hw hK
    obtain ⟨x0, y0, hTO⟩ := st.ho
    obtain ⟨xs, ys, ⟨gx, gy⟩, ⟨l1, l2⟩, hend⟩ := hg
    obtain ⟨us, rv, px⟩ := inv_x I gx
    obtain ⟨vs, rw', py⟩ := inv_x I gy
    have m1 := rv.length
    have m2 := rw'.length
    have hd : X.A.in1.handled = none := I.ok.hd hc
    refine wpAny_pyNext_zipD2_end S (draws_x hd b i1 p n1 us.toArray) (draws_x hd c i2 q n2 vs.toArray) st.hz st.hi hTO ⟨st.h1, px⟩ ⟨st.h2, py⟩ (by simp; omega) (by simp; omega) (by simp; omega) fun h' tk hk => ⟨rfl, I.turnedL (ch := [z, TI, TO, i1, i2]) (fun d o hd e => ?_) hf⟩
    simp only [List.mem_cons, List.not_mem_nil, or_false, not_or] at hd
    exact hk d o hd.1 hd.2.2.1 hd.2.2.2.1 hd.2.2.2.2 e
  self := fun A i s Q E st h => wpAny_pyIter_zip st.hz h
def iZipX (K : PySem.W.Frag) (ta : TA) : TI := fun σ H R => ta σ H fun vs H1 => ∃ b c p q xs ys, vs = [.ref p, .ref q] ∧ (Sqx K b H1 p xs ∧ Sqx K c H1 q ys) ∧ R (ItzX K b c p q) H1
theorem pi_zipX {X : Cx} {e e2 : Expr} {ta : TA} {p pos tpos : Pos} {elts : List Expr} {kk : Nat} (hg : Gl X "zip") (hm : X.mg "zip" = none) (ha : PA X [e, e2] ta) (hs : starEach [e, e2] X.env = (false, eval e X.env) :: starEach [e2] X.env := by rfl)
    (hpl : (backTo pos (starEach [e2] X.env)).any (·.1) = false := by rfl) : PI X (.Tuple elts kk tpos) (.Call (.Name "zip" p) [e, e2] [] pos) (iZipX X.K ta) := by
  refine ⟨fun pins s σ H R I h => Call_ (ld_blt I hg hm PyProof.Rows.boot_zip (PyProof.Rows.callWith_type1 (thn (ha.run pos pins s σ H _ I h) fun us s1 ⟨vs, H1, I1, r1, q1⟩ => ?_) hs hpl))⟩
  obtain ⟨b, c, a1, a2, xs, ys, ex, ⟨gx, gy⟩, q⟩ := q1
  subst ex
  cases r1 with
  | cons r rr =>
    cases rr with
    | cons r' rr =>
      cases rr
      cases r
      cases r'
      obtain ⟨us, rv, px⟩ := inv_x I1 gx
      obtain ⟨ws, rw', py⟩ := inv_x I1 gy
      refine zip_begins2 (begins_x b a1 us.toArray) (begins_x c a2 ws.toArray) px py fun h' hz hTI hTO h1 h2 hsz hk => wpAny_pyIter_zip hz ?_
      have J : Inv X pins σ H1 { s1 with heap := h' } := I1.kept (t' := s1.toks) hk
      refine ⟨s1.heap.objs.size + 4, [s1.heap.objs.size + 4, s1.heap.objs.size + 2, s1.heap.objs.size + 3, s1.heap.objs.size, s1.heap.objs.size + 1], _, _, H1, rfl, J,
        turn_zipX (zip_sep2 (N := s1.heap.objs.size) (fp1 := [a1]) (fp2 := [a2]) (fun d hd => by rw [List.mem_singleton.mp hd]; exact px.lt) fun d hd => by rw [List.mem_singleton.mp hd]; exact py.lt) (Nat.ne_of_lt px.lt) (Nat.ne_of_lt (Nat.lt_succ_of_lt py.lt)),
        ⟨hz, hTI, ⟨_, _, hTO⟩, obx_it h1, obx_it h2⟩, fun d hd => ?_, q⟩
      have hle : s1.heap.objs.size ≤ d := by
        rcases five hd with e | e | e | e | e <;> rw [e]
        · exact Nat.le_add_right _ _
        · exact Nat.le_add_right _ _
        · exact Nat.le_add_right _ _
        · exact Nat.le_refl _
        · exact Nat.le_add_right _ _
      exact I1.fpOk hle (I1.hok.fresh hle)
/-- a tree that is a row -/
def seqT : T → Option (Bool × List T)
  | .lst ts => some (false, ts)
  | .tup ts => some (true, ts)
  | _ => none
def iZx (ta : TA3) : TI3 := fun s Q => ta s fun as s1 => match as with
  | [x, y] => (match seqT x, seqT y with
    | some (_, ts), some (_, us) => Q (zipT ts us) s1
    | _, _ => False)
  | _ => False
section
variable {M : Mo} {Z : Hp}
theorem seqT_rp {x : T} {v : V} {b : Bool} {ts : List T} (e : seqT x = some (b, ts)) (r : Rp M Z x v) : ∃ a vs, v = .ref a ∧ (∀ H, Same Z H → Sqx M.K b H a vs) ∧ ts.length ≤ sizeLine ∧ RpL M Z ts vs := by
  cases r <;> first | (cases e; done) | skip
  · rename_i g n r
    cases e
    exact ⟨_, _, rfl, fun H l => .inl (.inl (l _ _ g)), n, r⟩
  · rename_i g n r
    cases e
    exact ⟨_, _, rfl, fun H l => .inl (.inl (l _ _ g)), n, r⟩
theorem walkT_zx {b c : Bool} {p q : Addr} {ts us : List T} {vs ws : List V} (hx : ∀ H, Same Z H → Sqx M.K b H p vs) (n : ts.length ≤ sizeLine) (r : RpL M Z ts vs) (hy : ∀ H, Same Z H → Sqx M.K c H q ws) (r' : RpL M Z us ws) : WalkT M (ItzX M.K b c p q) Z (zipT ts us) := by
  have hl : (zipT ts us).length = min vs.length ws.length := by rw [zipT_len, r.len, r'.len]
  refine ⟨by rw [zipT_len]; omega, fun i H hi l => ?_, fun H l => ⟨vs, ws, ⟨hx H l, hy H l⟩, by omega, by omega⟩, fun i H x H' Z1 hi e l y => ?_⟩
  · rw [hl] at hi
    exact ⟨vs, ws, vs[i], ws[i], ⟨hx H l, List.getElem?_eq_getElem (by omega)⟩, hy H l, List.getElem?_eq_getElem (by omega)⟩
  · obtain ⟨T, x', y', ⟨rfl, np, rfl⟩, y1, y2⟩ := y
    obtain ⟨t, h1, h2⟩ := r.get2 (y1 vs (hx _ (e.trans l)))
    obtain ⟨u, g1, g2⟩ := r'.get2 (y2 ws (hy _ (e.trans l)))
    obtain ⟨g, rr⟩ := gw_pair l np (h2.mono e) (g2.mono e)
    exact ⟨_, _, zipT_at h1 g1, g, rr⟩
end
theorem qi_zx {X : Cx} {G : Gh} {e e2 : Expr} {ta : TA3} {p pos tpos : Pos} {elts : List Expr} {kk : Nat} (hK : X.K = G.M.K) (hg : Gl X "zip") (hm : X.mg "zip" = none) (ha : PA X [e, e2] (upA G ta)) (hs : starEach [e, e2] X.env = (false, eval e X.env) :: starEach [e2] X.env := by rfl)
    (hpl : (backTo pos (starEach [e2] X.env)).any (·.1) = false := by rfl) : PI X (.Tuple elts kk tpos) (.Call (.Name "zip" p) [e, e2] [] pos) (upI G (iZx ta)) :=
  PI.imp (pi_zipX hg hm ha hs hpl) fun σ H R ⟨px, Z, s, Q3, fm, h, k⟩ => ⟨px, Z, s, _, fm, h, fun ts s1 ht vs Z1 H1 e1 f1 r1 => by
    rw [hK]
    split at ht
    · split at ht
      · rename_i b ts c us ex ey
        cases r1 with
        | cons r rr =>
          cases rr with
          | cons r' rr =>
            cases rr
            obtain ⟨a1, v1, rfl, g1, n1, q1⟩ := seqT_rp ex r
            obtain ⟨a2, v2, rfl, g2, n2, q2⟩ := seqT_rp ey r'
            exact ⟨b, c, a1, a2, v1, v2, rfl, ⟨g1 _ f1.le, g2 _ f1.le⟩, k _ s1 ht _ Z1 H1 e1 f1 (walkT_zx g1 n1 q1 g2 q2)⟩
      · exact ht.elim
    · exact ht.elim⟩
end G69
namespace G69
open PySem PySem.Spec PyProof.Rows L2
/-! ### enumerate of a text -/
abbrev eObN (i : Addr) : Obj := { cls := .type "enumerate", data := .fields #[.none, .bool false, .ref i, rawInt 0, .none, .none] }
set_option maxHeartbeats 1000000 in
theorem meets_enumB {v : Value} {o : Obj} {Hb : Heap → Prop} (B : Begins v o Hb) :
    Meets (Builtin.«enumerate.__new__» ⟨[.type "enumerate", v], []⟩) (fun _ R s => Hb s.heap ∧ R (.ok (.ret (.ref (s.heap.push o).objs.size))) { s with heap := (s.heap.push o).push (eObN s.heap.objs.size) }) :=
  .of_wp fun prog w A R s h => by
    obtain ⟨hp, g, d, tk, os⟩ := s
    obtain ⟨h1, h⟩ := h
    have hsub := sub_enumerate
    have q1 : ∀ {A1 : Around} {E1 : Value → Shared → Prop} {Q1 : Value → Shared → Prop}, Q1 (.ref hp.objs.size) ⟨hp.push o, g, d, tk, os⟩ → wpAny (model prog w) A1 (pyIter v) Q1 E1 ⟨hp, g, d, tk, os⟩ := fun q => B.iter prog w _ _ ⟨hp, g, d, tk, os⟩ _ h1 q
    wp_walk using q1
    refine wpAny_stack_any fun st => wpAny_pure ?_
    split
    · rename_i c _ _ _ _ _
      cases (c == Value.type "enumerate") <;> (wp_walk using q1; exact ⟨_, rfl, h⟩)
    · wp_walk using q1
      exact ⟨_, rfl, h⟩
theorem call_enumB {prog : Program} {w : World} {A : Around} {E : Value → Shared → Prop} {s : Shared} {v : Value} {o : Obj} {Hb : Heap → Prop} {Q : Value → Shared → Prop} (B : Begins v o Hb) (hb : Hb s.heap)
    (h : ∀ h1, IsEnum h1 (s.heap.objs.size + 1) s.heap.objs.size 0 .none → h1.get? s.heap.objs.size = some o → (∀ b o, s.heap.get? b = some o → h1.get? b = some o) → Q (.ref (s.heap.objs.size + 1)) { s with heap := h1 }) :
    wpAny (model prog w) A (call (.type "enumerate") [v]) Q E s := by
  refine callType_new F.called_enumerate (by decide) (F.typeCall_enumerate_1 _) (F.newCall_enumerate_1 _) (fun obj => F.args_object_init_2 obj _) F.entry_enumerate_new (meets_enumB B) ⟨hb, ?_⟩
  have hz : (s.heap.push o).objs.size = s.heap.objs.size + 1 := Heap.size_push ..
  have he : IsEnum ((s.heap.push o).push (eObN s.heap.objs.size)) (s.heap.objs.size + 1) s.heap.objs.size 0 .none := by
    have := Heap.get?_push_size (s.heap.push o) (o := eObN s.heap.objs.size) rfl
    rw [hz] at this
    exact this
  show _ ∧ _
  rw [hz]
  exact ⟨⟨_, he, rfl⟩, h _ he (Heap.get?_push_of_some _ (Heap.get?_push_size _ B.free)) fun b o x => Heap.get?_push_of_some _ (Heap.get?_push_of_some _ x)⟩
/-- a text as it stands, each sign in a new pair with its place -/
def ItsE (z : Str) : It :=
  ⟨fun i _ => i < z.cps.size, fun i H v H' => ∃ T c, (v = .ref T ∧ H T = none ∧ H' = upd H T (.tup [.int (i : Nat), .str ⟨#[c]⟩])) ∧ z.cps[i]? = some c, fun i _ => i = z.cps.size⟩
theorem turn_enumS {P : Program} {w : World} {K : PySem.W.Frag} {elts : List Expr} {kk : Nat} {tpos : Pos} (z : Str) (tk0 : Tok) (e it : Addr) (hne : e ≠ it) :
    Turn P w K (.Tuple elts kk tpos) (ItsE z) [e, it] e (fun i h => (∃ old, IsEnum h e it ((i : Nat) : Int) old) ∧ h.IsStrIter it (strIterType z) z tk0 i) where
  mem := List.mem_cons_self
  obj := fun i h st b hb => by
    obtain ⟨⟨old, he⟩, o, ho, hc, hd⟩ := st
    rcases (by simpa using hb : b = e ∨ b = it) with q | q <;> subst q
    · exact ⟨_, he, fun v g => nomatch g⟩
    · exact ⟨o, ho, fun v g => by rw [hd] at g; cases g⟩
  keep := fun i h h' st k => by
    obtain ⟨⟨old, he⟩, o, ho, hr⟩ := st
    exact ⟨⟨old, k e (by simp) _ he⟩, o, k it (by simp) o ho, hr⟩
  item := by
    intro X hP hw hK hc i pins s σ H E I hf st hg
    subst hP hw hK
    obtain ⟨⟨old, he⟩, hit⟩ := st
    have lt : i < z.cps.size := hg
    have hel : e < s.heap.objs.size := Heap.lt_size he
    have hil : it < s.heap.objs.size := by
      obtain ⟨o, q, _⟩ := hit
      exact Heap.lt_size q
    refine wpAny_pyNext_enum_itemD (Draws.text (A := X.A.in1) (show X.A.in1.handled = none from I.ok.hd hc) it z tk0) he hit lt hne (by simpa using hne) fun y h1 tk hy ho hst hT hsz hk => ?_
    obtain ⟨c, u, hcx, rfl⟩ := hy
    refine ⟨_, rfl, wpAny_letOwnedTupleGo_enum (s := { s with heap := h1, toks := tk + 1 }) ho fun h2 he2 sb => ?_⟩
    have hT2 := (sb.2 _ (Nat.ne_of_gt hel)).trans hT
    have new : ObjOk X.prog X.w (upd H s.heap.objs.size (.tup [.int (i : Nat), .str ⟨#[c]⟩])) h2 s.heap.objs.size (.tup [.int (i : Nat), .str ⟨#[c]⟩]) :=
      ⟨by show 2 ≤ sizeLine; decide, [.int i tk, .str ⟨#[c]⟩ u], .cons ⟨_, rfl⟩ (.cons ⟨_, rfl⟩ .nil), ⟨_, hT2, rfl, _, rfl⟩⟩
    have up : ∀ b o, b ∉ [e, it] → s.heap.get? b = some o → h2.get? b = some o := fun b o hb q => by
      simp only [List.mem_cons, List.not_mem_nil, or_false, not_or] at hb
      exact (sb.2 b hb.1).trans (hk b o hb.1 hb.2 q)
    have J : Inv X pins σ (upd H s.heap.objs.size (.tup [.int (i : Nat), .str ⟨#[c]⟩])) { s with heap := h2, toks := tk + 1 } := I.turnedNew (ch := [e, it]) up hf (Nat.le_refl _) new
    refine ⟨.ref s.heap.objs.size, _, J, rfl, ⟨_, c, ⟨rfl, I.hok.fresh (Nat.le_refl _), rfl⟩, hcx⟩, ⟨⟨.str ⟨#[c]⟩ u, ?_⟩, ?_⟩, fun b hb => ?_⟩
    · rw [show ((i + 1 : Nat) : Int) = (i : Int) + 1 by omega]
      exact he2
    · obtain ⟨o, q, r⟩ := hst
      exact ⟨o, (sb.2 it (Ne.symm hne)).trans q, r⟩
    · have hb' : b < s.heap.objs.size := by
        rcases (by simpa using hb : b = e ∨ b = it) with q | q <;> rw [q]
        · exact hel
        · exact hil
      rw [upd_ne (Nat.ne_of_lt hb')]
      exact (hf b hb).1
  done := by
    intro X hP hw hK hc i pins s σ H E I hf st hg
    subst hP hw hK
    obtain ⟨⟨old, he⟩, hit⟩ := st
    have hg : i = z.cps.size := hg
    subst hg
    obtain ⟨f0, f1, f2, f3, f4, f5⟩ := hf it (by simp)
    have hT : s.TypeIs (.ref e) "enumerate" := ⟨_, he, rfl⟩
    unfold pyNext
    refine wpAny_bind (wpAny_attempt (wpAny_callSpecial?_slot (name := Str.ofString "__next__") hT F.slot_enumerate_next (wpAny_call_entry F.slot_enumerate_next hT F.entry_enumerate_next ?_ (F.args_enumerate_next_1 _))))
    show wpAny _ _ (field (.ref e) 2 >>= _) _ _ _
    refine wpAny_bind (wpAny_field he rfl (x := .ref it) rfl ?_)
    refine wpAny_bind ((Draws.text (show X.A.in1.handled = none from I.ok.hd hc) it z tk0).done s _ _ hit fun h1 y eb hx => ?_)
    obtain ⟨o, ho, hcl⟩ := hx
    refine wpAny_bind (wpAny_isInstance (T := "StopIteration") (b := true) ⟨o, ho, hcl⟩ isSubtype_stop ?_)
    exact wpAny_pure ⟨rfl, I.turned (t' := s.toks) (fun b o hb q => eb b o hb q) f0 f1 f3 f4 f5⟩
  self := fun A i s Q E st h => let ⟨⟨_, he⟩, _⟩ := st; wpAny_pyIter_enum he h
def iEnumZ (ta : TA) : TI := fun σ H R => ta σ H fun vs H1 => ∃ z, vs = [.str z] ∧ R (ItsE z) H1
theorem pi_enumZ {X : Cx} {e : Expr} {ta : TA} {p pos tpos : Pos} {elts : List Expr} {kk : Nat} (hg : Gl X "enumerate") (hm : X.mg "enumerate" = none) (ha : PA X [e] ta) (hs : starEach [e] X.env = [(false, eval e X.env)] := by rfl) :
    PI X (.Tuple elts kk tpos) (.Call (.Name "enumerate" p) [e] [] pos) (iEnumZ ta) := by
  refine ⟨fun pins s σ H R I h => Call_ (ld_blt I hg hm boot_enumerate (PyProof.Rows.callWith_type1 (thn (ha.run pos pins s σ H _ I h) fun us s1 ⟨vs, H1, I1, r1, q1⟩ => ?_) hs rfl))⟩
  obtain ⟨z, ex, q⟩ := q1
  subst ex
  obtain ⟨u, rfl, ru⟩ := r1.one
  obtain ⟨t, rfl⟩ := ru
  refine call_enumB (begins_text z t) trivial fun h1 he hit hk => wpAny_pyIter_enum he ?_
  have J : Inv X pins σ H1 { s1 with heap := h1 } := I1.kept (t' := s1.toks) hk
  refine ⟨s1.heap.objs.size + 1, [s1.heap.objs.size + 1, s1.heap.objs.size], _, _, H1, rfl, J, turn_enumS z t (s1.heap.objs.size + 1) s1.heap.objs.size (Nat.succ_ne_self _), ⟨⟨.none, he⟩, _, hit, rfl, rfl⟩, fun b hb => ?_, q⟩
  have hle : s1.heap.objs.size ≤ b := by
    rcases (by simpa using hb : b = s1.heap.objs.size + 1 ∨ b = s1.heap.objs.size) with z | z <;> rw [z]
    · exact Nat.le_add_right _ _
    · exact Nat.le_refl _
  exact I1.fpOk hle (I1.hok.fresh hle)
def iEnZ (ta : TA3) : TI3 := fun s Q => ta s fun as s1 => match as with
  | [.str z] => Q (enumT (sgns z)) s1
  | _ => False
theorem walkT_ez {M : Mo} {Z : Hp} {z : Str} (hz : z.length ≤ sizeLine) : WalkT M (ItsE z) Z (enumT (sgns z)) := by
  have hl : (enumT (sgns z)).length = z.cps.size := by rw [enumT_len, sgns_len]
  refine ⟨by rw [hl]; exact hz, fun i H hi l => by rw [hl] at hi; exact hi, fun H l => hl, fun i H x H' Z1 hi e l y => ?_⟩
  obtain ⟨T, c, ⟨rfl, np, rfl⟩, hc⟩ := y
  have h1 : (sgns z)[i]? = some (.str ⟨#[c]⟩) := by
    unfold sgns
    rw [List.getElem?_map, Array.getElem?_toList, hc]
    rfl
  obtain ⟨g, rr⟩ := gw_pair (M := M) (t := .int (i : Nat)) (u := .str ⟨#[c]⟩) l np (.int (i : Nat)) (.str (by show 1 ≤ sizeLine; decide))
  exact ⟨_, _, enumT_at h1, g, rr⟩
theorem qi_ez {X : Cx} {G : Gh} {e : Expr} {ta : TA3} {p pos tpos : Pos} {elts : List Expr} {kk : Nat} (hg : Gl X "enumerate") (hm : X.mg "enumerate" = none) (ha : PA X [e] (upA G ta)) (hs : starEach [e] X.env = [(false, eval e X.env)] := by rfl) :
    PI X (.Tuple elts kk tpos) (.Call (.Name "enumerate" p) [e] [] pos) (upI G (iEnZ ta)) :=
  PI.imp (pi_enumZ hg hm ha hs) fun σ H R ⟨px, Z, s, Q3, fm, h, k⟩ => ⟨px, Z, s, _, fm, h, fun ts s1 ht vs Z1 H1 e1 f1 r1 => by
    split at ht
    · rename_i z
      cases r1 with
      | cons r rr =>
        cases rr
        cases r with
        | str hz => exact ⟨z, rfl, k _ s1 ht _ Z1 H1 e1 f1 (walkT_ez hz)⟩
    · exact ht.elim⟩
/-! ### x in d, x not in d -/
section
variable {X : Cx}
def rDIn : R2 := fun y x H Q => ∃ a o, x = .ref a ∧ DGet H a y o ∧ Q (.bl o.isSome) H
def rDNotIn : R2 := fun y x H Q => ∃ a o, x = .ref a ∧ DGet H a y o ∧ Q (.bl (!o.isSome)) H
theorem op_dIn (hu : X.A.units + 1 < cLine) : OpR X (compareOp .In) rDIn := by
  intro pins s σ H y x v u Q I ry rx h
  obtain ⟨a, o, rfl, g, q⟩ := h
  obtain rfl : u = Value.ref a := rx
  exact d_in hu I g ry fun s3 I3 => ⟨.bl o.isSome, H, I3, rfl, q⟩
theorem op_dNotIn (hu : X.A.units + 1 < cLine) : OpR X (compareOp .NotIn) rDNotIn := by
  intro pins s σ H y x v u Q I ry rx h
  obtain ⟨a, o, rfl, g, q⟩ := h
  obtain rfl : u = Value.ref a := rx
  exact d_notIn hu I g ry fun s3 I3 => ⟨.bl (!o.isSome), H, I3, rfl, q⟩
def fInK : F2 := fun y x P => match x, y with
  | .dic ks ts, .str z => P (.bl (ks.any fun k => decide (k = Sum.inr z)))
  | _, _ => False
def fNotInK : F2 := fun y x P => match x, y with
  | .dic ks ts, .str z => P (.bl (!ks.any fun k => decide (k = Sum.inr z)))
  | _, _ => False
theorem valV_zip (z : Key) : ∀ {ks : List Key} {vs : List V}, ks.length = vs.length → (valV (ks.zip vs) z).isSome = ks.any fun k => decide (k = z)
  | [], [], _ => rfl
  | k :: ks, v :: vs, h => by
    have ih := valV_zip z (Nat.succ.inj h)
    rw [List.zip_cons_cons, List.any_cons]
    by_cases e : k = z
    · rw [valV_pos (p := (k, v)) e, decide_eq_true e]
      rfl
    · rw [valV_neg (p := (k, v)) e, ih, decide_eq_false e, Bool.false_or]
theorem dget_of {M : Mo} {Z H : Hp} {ks : List Key} {ts : List T} {x : V} {z : Str} (l : Same Z H) (r : Rp M Z (.dic ks ts) x) : ∃ a o, x = .ref a ∧ DGet H a (.str z) o ∧ o.isSome = ks.any fun k => decide (k = Sum.inr z) := by
  cases r with
  | dic g n q =>
    rename_i a vs
    exact ⟨a, _, rfl, DGet.k (k := (Sum.inr z : Key)) (l _ _ g), valV_zip _ (by rw [n, q.len])⟩
theorem L_dIn {M : Mo} : OpL rDIn M fInK := by
  intro Z H y x ty tx P Q l ry rx h k
  unfold fInK at h
  split at h
  · cases ry
    obtain ⟨a, o, e, g, hs⟩ := dget_of l rx
    refine ⟨a, o, e, g, ?_⟩
    rw [hs]
    exact (k _ h).same l (.bl _)
  · exact h.elim
theorem L_dNotIn {M : Mo} : OpL rDNotIn M fNotInK := by
  intro Z H y x ty tx P Q l ry rx h k
  unfold fNotInK at h
  split at h
  · cases ry
    obtain ⟨a, o, e, g, hs⟩ := dget_of l rx
    refine ⟨a, o, e, g, ?_⟩
    rw [hs]
    exact (k _ h).same l (.bl _)
  · exact h.elim
end
end G69
namespace G69
open PySem PySem.Spec PyProof.Rows L2
/-! ### a tuple, [::-1] -/
theorem adj_rev (n : Nat) : Builtin.Slice.sliceAdjust none none (-1) (n : Int) = ((n : Int) - 1, -1) := by
  unfold Builtin.Slice.sliceAdjust
  have h1 : ((-1 : Int) < 0) := by omega
  simp only [h1, if_true]
theorem places_rev (n : Nat) : Builtin.Slice.slicePlaces ((n : Int) - 1) (-1) (-1) = n := by
  unfold Builtin.Slice.slicePlaces
  have h1 : ¬ ((-1 : Int) > 0) := by omega
  have e : (- -1 : Int) = 1 := by decide
  simp only [h1, if_false, e, Int.ediv_one]
  split <;> omega
theorem pick_rev (xs : Array Value) : ((List.range xs.size).filterMap fun (k : Nat) => xs[(((xs.size : Nat) : Int) - 1 + (k : Int) * (-1)).toNat]?).toArray = xs.toList.reverse.toArray := by
  have e : ((List.range xs.size).filterMap fun (k : Nat) => xs[(((xs.size : Nat) : Int) - 1 + (k : Int) * (-1)).toNat]?) = ((List.range xs.size).map (fun k => xs.size - 1 - k)).filterMap (xs[·]?) := by
    rw [List.filterMap_map]
    have gen : ∀ (l : List Nat), (∀ k ∈ l, k < xs.size) → (l.filterMap fun (k : Nat) => xs[(((xs.size : Nat) : Int) - 1 + (k : Int) * (-1)).toNat]?) = l.filterMap ((fun x => xs[x]?) ∘ fun k => xs.size - 1 - k) := by
      intro l
      induction l with
      | nil => intro _; rfl
      | cons k l ih =>
        intro h
        have hk := h k List.mem_cons_self
        rw [List.filterMap_cons, List.filterMap_cons, ih fun j hj => h j (List.mem_cons_of_mem _ hj)]
        rw [show ((fun x => xs[x]?) ∘ fun k => xs.size - 1 - k) k = xs[xs.size - 1 - k]? from rfl, show ((((xs.size : Nat) : Int) - 1 + (k : Int) * (-1)).toNat) = xs.size - 1 - k by omega]
    exact gen _ fun k hk => List.mem_range.mp hk
  rw [e, PySem.W.krv_range, List.filterMap_reverse, PySem.W.krv_all]
section
variable {prog : Program} {w : World} {A : Around} {E : Value → Shared → Prop} {s : Shared}
theorem sliceApplied_rev {sl : Addr} {vs : Value} {n : Nat} {Q : Int × Int × Nat → Shared → Prop} (hs : s.heap.IsSliceOf sl .none .none vs) (ps : IsPart vs (some (-1)))
    (h : Q ((n : Int) - 1, -1, n) s) : wpAny (model prog w) A (Builtin.Slice.sliceApplied (.ref sl) (pure (n : Int))) Q E s := by
  obtain ⟨os, hos, hcs, hds⟩ := id hs
  unfold Builtin.Slice.sliceApplied Builtin.Slice.sliceFields
  refine wpAny_bind (wpAny_bind (wpAny_field hos hds (x := .none) rfl (wpAny_bind (wpAny_field hos hds (x := .none) rfl (wpAny_bind (wpAny_field hos hds (x := vs) rfl (wpAny_pure ?_)))))))
  refine wpAny_bind (HT.slicePart_ ps ?_)
  show wpAny _ _ (if ((-1 : Int) == 0) = true then _ else _) _ _ s
  rw [if_neg (by decide)]
  refine wpAny_bind (HT.slicePart_ .none (wpAny_bind (HT.slicePart_ .none (wpAny_bind (wpAny_pure ?_)))))
  show wpAny _ _ (match Builtin.Slice.sliceAdjust none none (-1) (n : Int) with | (lo, hi) => pure (lo, (-1 : Int), Builtin.Slice.slicePlaces lo hi (-1))) _ _ s
  rw [adj_rev]
  show wpAny _ _ (pure ((n : Int) - 1, (-1 : Int), Builtin.Slice.slicePlaces ((n : Int) - 1) (-1) (-1))) _ _ s
  rw [places_rev]
  exact wpAny_pure h
theorem getItem_tuple_rev {t sl : Addr} {items : Array Value} {vs : Value} {Q : Value → Shared → Prop} (ht : IsTup s.heap t items) (hs : s.heap.IsSliceOf sl .none .none vs) (ps : IsPart vs (some (-1)))
    (h : Q (.ref s.heap.objs.size) { s with heap := s.heap.push { cls := .type "tuple", data := .seq items.toList.reverse.toArray } })
    (hsz : items.size ≤ sizeLine) : wpAny (model prog w) A (getItem (.ref t) (.ref sl)) Q E s := by
  have htake : sizeOk (.seq items.toList.reverse.toArray) := by
    show items.toList.reverse.toArray.size ≤ sizeLine
    rw [List.size_toArray, List.length_reverse, Array.length_toList]
    exact hsz
  obtain ⟨os, hos, hcs, hds⟩ := id hs
  have hTs : s.TypeIs (.ref sl) "slice" := ⟨os, hos, hcs⟩
  unfold getItem
  try with_reducible refine wpAny_holding ?_
  first | refine wpAny_bind (wpAny_pure ?_) | skip
  refine wpAny_bind (wpAny_sequenceKey ht.typeIs (by decide) ?_)
  refine wpAny_bind (wpAny_callSpecial?_slot (name := Str.ofString "__getitem__") ht.typeIs PyProof.Rows.slot_tuple_getitem
    (wpAny_call_entry PyProof.Rows.slot_tuple_getitem ht.typeIs entry_tuple_getitem ?_ (args_tuple_getitem _ _)))
  show wpAny _ _ (Builtin.Tuple.tupleItemsOf (.ref t) >>= _) _ _ s
  refine wpAny_bind (tupleItemsOf_ ht ?_)
  refine wpAny_bind (wpAny_typeOf hTs ?_)
  rw [if_pos (by decide)]
  refine wpAny_bind (sliceApplied_rev hs ps ?_)
  have hno : ¬ ((((items.size : Int) - 1) == 0 && (-1 : Int) == 1 && items.size == items.size) = true) := by
    rw [show ((-1 : Int) == 1) = false from rfl, Bool.and_false, Bool.false_and]
    exact Bool.false_ne_true
  show wpAny _ _ (if ((((items.size : Int) - 1) == 0 && (-1 : Int) == 1 && items.size == items.size) = true) then _ else _) _ _ s
  rw [if_neg hno, pick_rev]
  first
    | exact wpAny_bind (m := Builtin.Tuple.tupleExact _) (wpAny_newObj_type (wpAny_pure ⟨_, rfl, wpAny_pure h⟩) htake)
    | exact wpAny_bind (m := Builtin.Tuple.tupleExact _) (wpAny_newObj_type (wpAny_bind (wpAny_pure (wpAny_pure ⟨_, rfl, wpAny_pure h⟩))) htake)
    | exact wpAny_bind (wpAny_bind (m := Builtin.Tuple.tupleExact _) (wpAny_newObj_type (wpAny_pure (wpAny_pure ⟨_, rfl, wpAny_pure h⟩)) htake))
    | exact wpAny_bind (wpAny_bind (m := Builtin.Tuple.tupleExact _) (wpAny_newObj_type (wpAny_pure ⟨_, rfl, wpAny_pure h⟩) htake))
end
section
variable {X : Cx}
def tRevT (K : PySem.W.Frag) (te : TE) : TE := fun σ H Q => te σ H fun x H1 => ∃ a xs, x = .ref a ∧ SqT K H1 a xs ∧ ∀ p, H1 p = none → Q (.ref p) (upd H1 p (.tup xs.reverse))
theorem pe_revTup {e : Expr} {te : TE} {k : Nat} {p1 p2 p3 pos : Pos} (he : PE X e te) : PE X (.Subscript e (.Slice none none (some (.UnaryOp .USub (.Constant (.int 1) k p1) p2)) p3) pos) (tRevT X.K te) := by
  refine ⟨fun pins s σ H Q I h => ?_⟩
  refine Subscript_ (thn (he.run pins s σ H _ I h) fun v s1 ⟨x, H1, I1, r1, q1⟩ => ?_)
  obtain ⟨a, xs, ex, hx, q⟩ := q1
  subst ex
  cases r1
  have hst : PO X (some (.UnaryOp .USub (.Constant (.int 1) k p1) p2)) (tPart (tUn (rU fun i => .int (-i)) (tC (.int 1)))) := po_some (pe_un un_neg pe_int)
  refine wpAny_Slice (thn (po_none.run pins s1 σ H1 (fun o H2 => o = none ∧ H2 = H1) I1 ⟨rfl, rfl⟩) fun vl s2 ⟨l, H2, I2, pl, el, e2⟩ => ?_)
  subst el e2
  refine thn (po_none.run pins s2 σ H2 (fun o H3 => o = none ∧ H3 = H2) I2 ⟨rfl, rfl⟩) fun vu s3 ⟨u, H3, I3, pu, eu, e3⟩ => ?_
  subst eu e3
  refine thn (hst.run pins s3 σ H3 (fun o H4 => o = some (-1) ∧ H4 = H3) I3 ⟨1, rfl, -1, rfl, rfl, rfl⟩) fun vs s4 ⟨o, H4, I4, ps, eo, e4⟩ => ?_
  subst eo e4
  cases pl
  cases pu
  have I5 : Inv X pins σ H4 { s4 with heap := s4.heap.push { cls := .type "slice", data := .fields #[.none, .none, vs] } } := I4.kept (t' := s4.toks) fun b ob q => Heap.get?_push_of_some _ q
  obtain ⟨its, r, ht, hz⟩ := I5.tuple hx
  have hlen := r.length
  show wpAny (model X.prog X.w) X.A (subscriptTail e (.Slice none none (some (.UnaryOp .USub (.Constant (.int 1) k p1) p2)) p3) (.ref a) (.ref s4.heap.objs.size)) (EP X pins σ Q) X.xe { s4 with heap := s4.heap.push { cls := .type "slice", data := .fields #[.none, .none, vs] } }
  refine tail_any (ops := [.ref a, .ref s4.heap.objs.size]) (IsTup.typeIs ht) (PyProof.Rows.slot_tuple_getitem.lookup) ?_ (by with_unfolding_all rfl)
  refine getItem_tuple_rev (items := its.toArray) ht (Heap.IsSliceOf.new _ .none .none vs) ps ?_ (by rw [List.size_toArray]; omega)
  refine ⟨.ref _, _, I5.laid (t' := s4.toks) (o := .tup xs.reverse) (fun b ob q => Heap.get?_push_of_some _ q) (Nat.le_refl _) ?_, rfl, q _ (I5.hok.fresh (Nat.le_refl _))⟩
  exact ⟨by rw [List.length_reverse]; exact hz, _, r.reverse, IsTup.new _ _⟩
end
def fRevT : F1 := fun x P => match x with
  | .tup ts => P (.tup ts.reverse)
  | _ => False
theorem q_revT {X : Cx} {G : Gh} {e : Expr} {te : TE3} {k : Nat} {p1 p2 p3 pos : Pos} (hK : X.K = G.M.K) (he : PE X e (up G te)) : PE X (.Subscript e (.Slice none none (some (.UnaryOp .USub (.Constant (.int 1) k p1) p2)) p3) pos) (up G (tUn3 fRevT te)) :=
  PE.imp (pe_revTup he) fun σ H Q ⟨px, Z, s, Q3, fm, h, kx⟩ => ⟨px, Z, s, _, fm, h, fun t s1 hf v Z1 H1 e1 f1 r1 => by
    rw [hK]
    unfold fRevT at hf
    split at hf
    · cases r1 with
      | tup g n r =>
        refine ⟨_, _, rfl, .inl (.inl (f1.le _ _ g)), fun p np => ?_⟩
        obtain ⟨e2, f2⟩ := f1.new (o := .tup (List.reverse _)) np
        exact kx _ s1 hf _ _ _ (e1.trans e2) f2 (.tup upd_same (by rw [List.length_reverse]; exact n) (r.rev.mono e2))
    · exact hf.elim⟩
end G69
namespace G69
open PySem PySem.Spec PyProof.Rows L2
/-! ### x[::-1], x a list or a tuple -/
def tRevX (te : TE3) : TE3 := fun s Q => tUn3 fRevL te s Q ∨ tUn3 fRevT te s Q
theorem q_revX {X : Cx} {G : Gh} {e : Expr} {te : TE3} {k : Nat} {p1 p2 p3 pos : Pos} (hK : X.K = G.M.K) (he : PE X e (up G te)) : PE X (.Subscript e (.Slice none none (some (.UnaryOp .USub (.Constant (.int 1) k p1) p2)) p3) pos) (up G (tRevX te)) :=
  ⟨fun pins s σ H Q I ⟨px, Z, s3, Q3, fm, h, kx⟩ => h.elim (fun h => (q_revL hK he).run pins s σ H Q I ⟨px, Z, s3, Q3, fm, h, kx⟩) fun h => (q_revT hK he).run pins s σ H Q I ⟨px, Z, s3, Q3, fm, h, kx⟩⟩
end G69
namespace G69
open PySem PySem.Spec PyProof.Rows L2
/-! ### a new list that a def hands out: x = f(e, ..), no list among what it is given -/
mutual
def plT : T → Bool
  | .non => true
  | .bl _ => true
  | .int _ => true
  | .str _ => true
  | .ty _ => true
  | .tup ts => plTs ts
  | .ins _ ts => plTs ts
  | .drw => true
  | _ => false
def plTs : List T → Bool
  | [] => true
  | t :: ts => plT t && plTs ts
end
def dropQ (Z : Hp) : Hp := fun a => match Z a with
  | some (.lst _) => none
  | some (.dK _) => none
  | x => x
theorem dropQ_of {Z : Hp} {a : Addr} {o : HO} (h : Z a = some o) (n : ∀ xs, o ≠ .lst xs) (n2 : ∀ xs, o ≠ .dK xs) : dropQ Z a = some o := by
  unfold dropQ
  rw [h]
  cases o <;> first | rfl | exact absurd rfl (n _) | exact absurd rfl (n2 _)
theorem dropQ_same (Z : Hp) : Same (dropQ Z) Z := fun a o h => by
  unfold dropQ at h
  split at h
  · cases h
  · cases h
  · exact h
theorem dropQ_lst {Z : Hp} {a : Addr} {xs : List V} : dropQ Z a ≠ some (.lst xs) := fun h => by
  have h2 := dropQ_same Z a _ h
  unfold dropQ at h
  rw [h2] at h
  cases h
theorem dropQ_dK {Z : Hp} {a : Addr} {xs : List (Key × V)} : dropQ Z a ≠ some (.dK xs) := fun h => by
  have h2 := dropQ_same Z a _ h
  unfold dropQ at h
  rw [h2] at h
  cases h
/-! no dicts within -/
mutual
def noD : T → Bool
  | .lst ts => noDs ts
  | .tup ts => noDs ts
  | .ins _ ts => noDs ts
  | .dic _ _ => false
  | .err _ _ => false
  | .scr _ => false
  | _ => true
def noDs : List T → Bool
  | [] => true
  | t :: ts => noD t && noDs ts
end
section
variable {M : Mo} {Z : Hp}
mutual
theorem Rp.plT : ∀ {t : T} {v : V}, Rp M Z t v → plT t = true → Rp M (dropQ Z) t v
  | _, _, .non, _ => .non
  | _, _, .bl b, _ => .bl b
  | _, _, .int i, _ => .int i
  | _, _, .str h, _ => .str h
  | _, _, .ty n, _ => .ty n
  | _, _, .lst h n l, q => by cases q
  | _, _, .tup h n l, q => .tup (dropQ_of h (fun _ e => by cases e) fun _ e => by cases e) n (RpL.plT l q)
  | _, _, .dic h n l, q => by cases q
  | _, _, .ins g h d l, q => .ins g (dropQ_of h (fun _ e => by cases e) fun _ e => by cases e) (dropQ_of d (fun _ e => by cases e) fun _ e => by cases e) (RpL.plT l q)
  | _, _, .err g h d l, q => by cases q
  | _, _, .drw h, _ => .drw h
  | _, _, .scr h, q => by cases q
  | _, _, .ob v, q => by cases q
theorem RpL.plT : ∀ {ts : List T} {vs : List V}, RpL M Z ts vs → plTs ts = true → RpL M (dropQ Z) ts vs
  | _, _, .nil, _ => .nil
  | _, _, .cons h l, q => by
    unfold plTs at q
    rw [Bool.and_eq_true] at q
    exact .cons (Rp.plT h q.1) (RpL.plT l q.2)
end
section
variable {a : Addr} {kvs : List (Key × V)}
mutual
theorem Rp.hidD (h : Z a = some (.dK kvs)) : ∀ {t : T} {v : V}, Rp M Z t v → noD t = true → Rp M (hid Z a) t v
  | _, _, .non, _ => .non
  | _, _, .bl b, _ => .bl b
  | _, _, .int i, _ => .int i
  | _, _, .str g, _ => .str g
  | _, _, .ty n, _ => .ty n
  | _, _, .lst g n l, q => .lst (by rw [hid_ne (ne_of g h (by intro z; cases z))]; exact g) n (RpL.hidD h l (by rw [noD] at q; exact q))
  | _, _, .tup g n l, q => .tup (by rw [hid_ne (ne_of g h (by intro z; cases z))]; exact g) n (RpL.hidD h l (by rw [noD] at q; exact q))
  | _, _, .dic _ _ _, q => absurd q (by simp [noD])
  | _, _, .ins m g d l, q => .ins m (by rw [hid_ne (ne_of g h (by intro z; cases z))]; exact g) (by rw [hid_ne (ne_of d h (by intro z; cases z))]; exact d) (RpL.hidD h l (by rw [noD] at q; exact q))
  | _, _, .drw g, _ => .drw g
  | _, _, .err _ _ _ _, q => absurd q (by simp [noD])
  | _, _, .scr _, q => absurd q (by simp [noD])
  | _, _, .ob v, _ => .ob v
theorem RpL.hidD (h : Z a = some (.dK kvs)) : ∀ {ts : List T} {vs : List V}, RpL M Z ts vs → noDs ts = true → RpL M (hid Z a) ts vs
  | _, _, .nil, _ => .nil
  | _, _, .cons g l, q => by
    rw [noDs, Bool.and_eq_true] at q
    exact .cons (Rp.hidD h g q.1) (RpL.hidD h l q.2)
end
end
theorem RpL.flatX {Z' : Hp} : ∀ {ts : List T} {vs : List V}, RpL M Z ts vs → ts.all flatT = true → RpL M Z' ts vs
  | _, _, .nil, _ => .nil
  | t :: ts, _, .cons h l, q => by
    rw [List.all_cons, Bool.and_eq_true] at q
    refine .cons ?_ (RpL.flatX l q.2)
    have q1 := q.1
    cases h with
    | non => exact .non
    | bl b => exact .bl b
    | int i => exact .int i
    | str h => exact .str h
    | _ => cases q1
end
def tCalF (sp : Sp3) (ta : TA3) : TE3 := fun s Q => ta s fun ts s1 => plTs ts = true ∧ sp ts (fun t => match t with
  | .lst us => us.all flatT = true ∧ Q (.lst us) s1
  | .dic ks us => noDs us = true ∧ Q (.dic ks us) s1
  | _ => False) E03
section
variable {X : Cx} {G : Gh} {px Z H Z' H' : Hp} {σ : L2.St} {s : S3} {K : PySem.W.Frag} {mg : Str → Option Value}
theorem dr_drop {D : Dw} (h : DrOk D H Z) : DrOk D H (dropQ Z) := by
  unfold DrOk at *
  cases D with
  | none => trivial
  | some x =>
    obtain ⟨d, l, c⟩ := x
    obtain ⟨h1, h2, h3, h4⟩ := h
    have none_ : ∀ a, Z a = none → dropQ Z a = none := fun a h => by unfold dropQ; rw [h]
    exact ⟨h1, none_ _ h2, none_ _ h3, none_ _ h4⟩
theorem dr_back {D : Dw} (h : DrOk D H Z) (g : DrOk D H' Z') : DrOk D H' Z := by
  unfold DrOk at *
  cases D with
  | none => trivial
  | some x =>
    obtain ⟨d, l, c⟩ := x
    obtain ⟨h1, h2, h3, h4⟩ := h
    exact ⟨g.1, h2, h3, h4⟩
theorem Fm.callF (f : Fm G px Z H σ s) (c : Core ⟨G.M, noT H, dropQ Z, none⟩ Z' H') : Fm G px Z H' σ s := by
  have keep : ∀ a o, NT o → offD G.M.D a → H a = some o → H' a = some o := fun a o nt hd ho => c.kp a o (noT_of ho nt) hd.not
  have offZ : ∀ a o, Z a = some o → offD G.M.D a := fun a o ha => f.dr.offZ ha
  refine ⟨⟨fun a o ha => keep a o (f.zt a o ha) (offZ a o ha) (f.le a o ha), f.z0, f.nw, fun a o e n => c.kp a o (noT_of (f.kp a o e n) (f.h0 a o e)) n, dr_back f.dr c.dr, c.tb, f.zt, f.h0⟩, f.len, f.sh, fun i t e => ?_, f.inj, fun a o e => ?_⟩
  · obtain ⟨a, h1, h2, h3⟩ := f.ow i t e
    obtain ⟨w, hw⟩ := h3.at
    refine ⟨a, h1, h2, h3.mono (fun _ _ q => q) fun o ho => keep a o ?_ h2.2.2.2 ho⟩
    exact h3.nt ho
  · obtain ⟨h1, h2, h3, h4, h5⟩ := f.px a o e
    exact ⟨keep a o h5 h4 h1, h2, h3, h4, h5⟩
end
/-- all that the callee laid is known from now on, but the thing at a -/
def unH (Z Z' : Hp) (a : Addr) : Hp := fun b => if b = a then none else match Z b with
  | some o => some o
  | none => Z' b
section
variable {G : Gh} {px Z H Z' H' : Hp} {σ : L2.St} {s : S3}
theorem Fm.callU (f : Fm G px Z H σ s) (c : Core ⟨G.M, noT H, dropQ Z, none⟩ Z' H') {a : Addr} (ha : Z a = none) : Same Z (unH Z Z' a) ∧ Same (hid Z' a) (unH Z Z' a) ∧ Fm G px (unH Z Z' a) H' σ s := by
  have f2 := f.callF c
  have zu : Same Z (unH Z Z' a) := fun b o h => by
    unfold unH
    rw [if_neg (ne_of_none h ha), h]
  have at_ : ∀ b o, unH Z Z' a b = some o → b ≠ a ∧ (Z b = some o ∨ (Z b = none ∧ Z' b = some o)) := fun b o h => by
    unfold unH at h
    by_cases hb : b = a
    · rw [if_pos hb] at h; cases h
    · rw [if_neg hb] at h
      refine ⟨hb, ?_⟩
      cases e : Z b with
      | some u => rw [e] at h; cases h; exact .inl rfl
      | none => rw [e] at h; exact .inr ⟨rfl, h⟩
  have dq : ∀ b, Z b = none → dropQ Z b = none := fun b h => by unfold dropQ; rw [h]
  refine ⟨zu, fun b o h => ?_, f.callN (Hc := H) (Zc := Z) (Z' := unH Z Z' a) (H' := H') ?_ (fun _ _ h _ => h) (fun _ _ h => h) (fun a h1 h2 => absurd h1 h2)⟩
  · unfold hid at h
    by_cases hb : b = a
    · rw [if_pos hb] at h; cases h
    · rw [if_neg hb] at h
      unfold unH
      rw [if_neg hb]
      cases e : Z b with
      | none => exact h
      | some u =>
        have h1 := f2.le b u e
        rw [c.le b o h] at h1
        cases h1
        rfl
  · refine ⟨fun b o h => ?_, zu, fun b h1 h2 => ?_, c.kp, ?_, c.tb, fun b o h => ?_, c.h0⟩
    · rcases (at_ b o h).2 with q | ⟨_, q⟩
      · exact f2.le b o q
      · exact c.le b o q
    · cases q : unH Z Z' a b with
      | none => exact absurd q h2
      | some o =>
        rcases (at_ b o q).2 with q | ⟨q1, q2⟩
        · rw [show Z b = none from h1] at q; cases q
        · exact c.nw b (dq b q1) (by rw [q2]; intro z; cases z)
    · have d1 := f.dr
      have d2 := c.dr
      revert d1 d2
      show DrOk G.M.D H Z → DrOk G.M.D H' Z' → DrOk G.M.D H' (unH Z Z' a)
      cases G.M.D with
      | none => intro _ _; trivial
      | some y =>
        obtain ⟨d, l, cc⟩ := y
        intro d1 d2
        have both : ∀ b, Z b = none → Z' b = none → unH Z Z' a b = none := fun b h1 h2 => by
          unfold unH
          split
          · rfl
          · rw [h1]; exact h2
        exact ⟨d2.1, both _ d1.2.1 d2.2.1, both _ d1.2.2.1 d2.2.2.1, both _ d1.2.2.2 d2.2.2.2⟩
    · rcases (at_ b o h).2 with q | ⟨_, q⟩
      · exact f.zt b o q
      · exact c.zt b o q
end
section
variable {X : Cx} {G : Gh} {sp : Sp3} {x : Str} {ps : List Str} {k j : Nat} {e : Expr} {es : List Expr} {tA : TA3} {p pos : Pos}
theorem q_calF (C : Cal3 X.prog X.w X.K X.mg X.base x ps k sp) (hM : G.M = ⟨X.K, X.mg, G.M.D⟩) (hr : Room j X.A) (hj : k ≤ j) (hg : Gl X x) (ha : PA X (e :: es) (upA G tA))
    (hdb : (x == ("__debug__" : Str)) = false := by decide) (he : starEach (e :: es) X.env = (false, eval e X.env) :: starEach es X.env := by rfl) (hpl : (backTo pos (starEach es X.env)).any (·.1) = false := by rfl) :
    PE X (.Call (.Name x p) (e :: es) [] pos) (upF G (tCalF sp tA)) := by
  obtain ⟨f, fd, F, g, kp, b, _⟩ := C.ex
  exact PE.imp (pe_call (E := E0) (FnOk.to0 F) (hr.mono hj) hg g kp b .nil pass0 ha hdb he hpl) fun σ H Q ⟨px, Z, s, Q3, fm, h, kx⟩ => ⟨px, Z, s, _, fm, h, fun ts s1 hs vs Z1 H1 e1 f1 r1 => by
    show lift X.K X.mg sp (vs ++ []) H1 Q E0
    rw [List.append_nil]
    obtain ⟨hn, hs⟩ := hs
    have sz := f1.toCore.sz hM
    refine ⟨G.M.D, dropQ Z1, ts, _, E03, ⟨(dropQ_same Z1).trans sz.le, sz.tb, fun a o h => sz.zt a o (dropQ_same Z1 a o h)⟩, dr_drop f1.dr, ?_, hs, fun t ht v Z' H' c rr => ?_, fun _ _ h => h.elim⟩
    · rw [← hM]
      exact RpL.plT r1 hn
    · rw [← hM] at c rr
      have fresh : ∀ a, Z1 a = none → Z' a ≠ none → Pv G px Z1 a ∧ NotOw σ s1 a := fun a hz1 hz' => by
        have hz : dropQ Z1 a = none := by unfold dropQ; rw [hz1]
        have nH : noT H1 a = none := c.nw a hz hz'
        have hold : ∀ o, H1 a = some o → NT o → False := fun o ho nt => by
          rw [noT_of ho nt] at nH
          cases nH
        refine ⟨⟨hz1, ?_, ?_, f1.dr.offT nH⟩, fun i t ei q => ?_⟩
        · cases q : G.H0 a with
          | none => rfl
          | some o => exact (hold o (f1.kp a o q (f1.dr.offT nH).not) (f1.h0 a o q)).elim
        · cases q : px a with
          | none => rfl
          | some o =>
            have := f1.px a o q
            exact (hold o this.1 this.2.2.2.2).elim
        · obtain ⟨b, h1, h2, h3⟩ := f1.ow i t ei
          rw [q] at h1
          cases h1
          obtain ⟨w, hw⟩ := h3.at
          exact hold w hw (h3.nt hw)
      split at ht
      · rename_i us
        cases rr with
        | lst g1 n1 q1 =>
          rename_i a ws
          have f2 := f1.callF c
          have hz : Z1 a = none := by
            cases q : Z1 a with
            | none => rfl
            | some u =>
              exfalso
              have h1 := f2.le a u q
              rw [c.le a _ g1] at h1
              cases h1
              have nz : dropQ Z1 a = none := by
                cases e : dropQ Z1 a with
                | none => rfl
                | some u =>
                  have h3 := dropQ_same Z1 a u e
                  rw [q] at h3
                  cases h3
                  exact absurd e dropQ_lst
              have h2 := c.nw a nz (by rw [g1]; intro z; cases z)
              have h4 := f1.le a _ q
              have h5 : noT H1 a = none := h2
              rw [noT_of h4 (f1.zt a _ q)] at h5
              cases h5
          obtain ⟨p1, p2⟩ := fresh a hz (by rw [g1]; intro z; cases z)
          exact kx _ s1 ht.2 a Z1 H' e1 f2 p1 p2 ⟨ws, c.le _ _ g1, n1, RpL.flatX q1 ht.1⟩
      · rename_i ks us
        cases rr with
        | dic g1 n1 q1 =>
          rename_i a ws
          have f2 := f1.callF c
          have hz : Z1 a = none := by
            cases q : Z1 a with
            | none => rfl
            | some u =>
              exfalso
              have h1 := f2.le a u q
              rw [c.le a _ g1] at h1
              cases h1
              have nz : dropQ Z1 a = none := by
                cases e : dropQ Z1 a with
                | none => rfl
                | some u =>
                  have h3 := dropQ_same Z1 a u e
                  rw [q] at h3
                  cases h3
                  exact absurd e dropQ_dK
              have h2 := c.nw a nz (by rw [g1]; intro z; cases z)
              have h4 := f1.le a _ q
              have h5 : noT H1 a = none := h2
              rw [noT_of h4 (f1.zt a _ q)] at h5
              cases h5
          obtain ⟨p1, p2⟩ := fresh a hz (by rw [g1]; intro z; cases z)
          obtain ⟨zu, hu, f3⟩ := f1.callU c hz
          refine kx _ s1 ht.2 a (unH Z1 Z' a) H' (e1.trans zu) f3 ⟨by unfold unH; rw [if_pos rfl], p1.2⟩ p2 ⟨ws, c.le _ _ g1, n1, ?_⟩
          exact (RpL.hidD g1 q1 ht.1).mono hu
      · exact ht.elim⟩
end
end G69
namespace G69
open PySem PySem.Spec PyProof.Rows L2
/-! ### {k: e, ..} with texts as keys -/
def mkDic (ks : List Key) : FN := fun ts P => match lenIs ts ks.length with
  | true => P (.dic ks ts)
  | false => False
theorem putK_out {kvs : List (Key × V)} {k : Key} {v : V} (h : k ∉ kvs.map (·.1)) : putK kvs k v = kvs ++ [(k, v)] := by
  unfold putK
  rw [if_neg]
  intro ha
  obtain ⟨p, hp, e⟩ := List.any_eq_true.mp ha
  exact h (List.mem_map.mpr ⟨p, hp, of_decide_eq_true e⟩)
theorem merge_zip : ∀ {more kvs : List (Key × V)}, ((kvs ++ more).map (·.1)).Nodup → mergeK kvs more = kvs ++ more
  | [], kvs, _ => by rw [List.append_nil]; rfl
  | p :: r, kvs, h => by
    show mergeK (putK kvs p.1 p.2) r = _
    have hp : p.1 ∉ kvs.map (·.1) := by
      rw [List.map_append, List.nodup_append] at h
      exact fun m => h.2.2 _ m p.1 (by rw [List.map_cons]; exact List.mem_cons_self) rfl
    rw [putK_out hp]
    have h' : ((kvs ++ [(p.1, p.2)] ++ r).map (·.1)).Nodup := by
      rw [List.append_assoc]
      exact h
    rw [merge_zip h', List.append_assoc]
    rfl
structure QD (X : Cx) (G : Gh) (pos : Pos) (keys : List (Option Expr)) (values : List Expr) (ks : List Key) (tA : TA3) : Prop where
  ex : ∃ trs, PPs X pos keys values trs ∧ ∀ σ H (Q : List (V × V) → Hp → Prop), upA G tA σ H (fun vs H' => Q ((ks.map kV).zip vs) H') → tPairs trs σ H Q
section
variable {X : Cx} {G : Gh} {pos p2 : Pos} {keys : List (Option Expr)} {values : List Expr} {ks : List Key} {tA : TA3}
theorem qd_nil : QD X G pos [] [] [] aNil := ⟨[], pps_nil, fun σ H Q ⟨px, Z, s, Q3, fm, h, k⟩ => k [] s h [] Z H (fun _ _ q => q) fm .nil⟩
theorem qd_cons {z : Str} {j : Nat} {e : Expr} {te : TE3} (he : PE X e (up G te)) (hr : QD X G pos keys values ks tA) : QD X G pos (some (.Constant (.str z) j p2) :: keys) (e :: values) (.inr z :: ks) (aCons te tA) := by
  obtain ⟨trs, pp, go⟩ := hr.ex
  exact ⟨_, pps_cons pe_str he pp, fun σ H Q ⟨px, Z, s, Q3, fm, h, k⟩ => ⟨px, Z, s, _, fm, h, fun x s1 hb v Z1 H1 e1 f1 r1 => go σ H1 _ ⟨px, Z1, s1, _, f1, hb, fun ts s2 hq vs Z2 H2 e2 f2 r2 => k (x :: ts) s2 hq (v :: vs) Z2 H2 (e1.trans e2) f2 (.cons (r1.mono e2) r2)⟩⟩⟩
theorem zip_map1 {ks : List Key} {vs : List V} : (ks.map kV).zip vs = (ks.zip vs).map fun kv => (kV kv.1, kv.2) := by
  induction ks generalizing vs with
  | nil => rfl
  | cons k ks ih =>
    cases vs with
    | nil => rfl
    | cons v vs => rw [List.map_cons, List.zip_cons_cons, List.zip_cons_cons, List.map_cons, ih]
theorem zip_fst : ∀ {ks : List Key} {vs : List V}, ks.length = vs.length → (ks.zip vs).map (·.1) = ks
  | [], _, _ => rfl
  | k :: ks, v :: vs, h => by rw [List.zip_cons_cons, List.map_cons, zip_fst (by simpa using h)]
theorem qf_dic (d : QD X G pos keys values ks tA) (hn : ks.Nodup) (hl : keys.length = values.length := by rfl) (hk : keys.length = ks.length := by rfl) (ha : keys.all (·.isSome) = true := by rfl) (h0 : keys ≠ [] := by intro h; cases h) (h15 : keys.length ≤ 15 := by decide) :
    PE X (.Dict keys values pos) (upF G (tN (mkDic ks) tA)) := by
  obtain ⟨trs, pp, go⟩ := d.ex
  refine PE.imp (pe_disp pp ha hl h0 h15) fun σ H Q ⟨px, Z, s, Q3, fm, h, k⟩ p np => go σ _ _ ?_
  obtain ⟨f2, hp, hno⟩ := fm.mute (o := .dK []) np
  refine ⟨_, Z, s, _, f2.lay hp hno upd_same, h, fun ts s1 hf vs Z1 H1 e1 f1 r1 => ?_⟩
  unfold mkDic at hf
  split at hf
  · rename_i hlen
    have el := lenIs_eq hlen
    have ev : ks.length = vs.length := by rw [← r1.len, el]
    obtain ⟨_, _, _, hat⟩ := f1.unlay hp.2.2.1
    refine ⟨hat, ks.zip vs, zip_map1, by rw [List.length_zip]; omega, ?_⟩
    have em : mergeK [] (ks.zip vs) = ks.zip vs := merge_zip (by rw [List.nil_append, zip_fst ev]; exact hn)
    rw [em]
    obtain ⟨f3, hp3, hn3, h3⟩ := (f1.relay (o' := .dK (ks.zip vs)) hp.2.2.1).unlay hp.2.2.1
    exact k (.dic ks ts) s1 hf p Z1 _ e1 f3 hp3 hn3 ⟨vs, upd_same, by rw [ev, r1.len], r1⟩
  · exact hf.elim
/-! ### d.get(k, x) -/
def tDg2 (ta tb tc : TE3) : TE3 := fun s Q => ta s fun x s1 => match x with
  | .dic ks ts => tb s1 fun y s2 => tc s2 fun z s3 => (match keyT y with
    | some k => Q ((getK ks ts k).getD z) s3
    | none => False)
  | _ => False
theorem getK_no {M : Mo} {Z : Hp} : ∀ {ks : List Key} {ts : List T} {vs : List V} {k : Key}, RpL M Z ts vs → ks.length = ts.length → getK ks ts k = none → valV (ks.zip vs) k = none
  | [], _, _, _, _, _, _ => rfl
  | k' :: ks, t' :: ts, v :: vs, k, .cons r rr, hl, h => by
    unfold getK at h
    by_cases e : k' = k
    · rw [if_pos e] at h
      cases h
    · rw [if_neg e] at h
      rw [List.zip_cons_cons, valV_neg e]
      exact getK_no rr (by simpa using hl) h
theorem q_dg2 {o e f : Expr} {ta tb tc : TE3} {apos cpos : Pos} (hu : X.A.units + 1 < cLine) (ho : PE X o (up G ta)) (he : PE X e (up G tb)) (hf : PE X f (up G tc)) (hb : attributeBase o "get" X.env (eval o X.env) = eval o X.env := by rfl)
    (hfew : ((backTo cpos (starEach [e, f] X.env)).all (fun x => !x.1) && (backToKw cpos (keywordEach [] X.env)).all (fun x => x.1.isSome) && decide (([e, f] : List Expr).length + ([] : List Keyword).length + (if ([] : List Keyword).isEmpty then 0 else 1) < 30)) = true := by rfl)
    (hline : (apos.endLine == cpos.line) = true := by rfl) (ht : backTo cpos (starEach [e, f] X.env) = [(false, eval e X.env), (false, eval f X.env)] := by rfl) :
    PE X (.Call (.Attribute o "get" apos) [e, f] [] cpos) (up G (tDg2 ta tb tc)) :=
  PE.imp (pe_dget2 hu ho he hf ⟨hb, hfew, hline, ht⟩) fun σ H Q ⟨px, Z, s, Q3, fm, h, k⟩ => ⟨px, Z, s, _, fm, h, fun x s1 h1 v Z1 H1 e1 f1 r1 => by
    cases x with
    | dic ks ts =>
      cases r1 with
      | dic g n r =>
        rename_i a vs
        refine ⟨a, rfl, .inl ⟨_, .inl (f1.le _ _ g)⟩, px, Z1, s1, _, f1, h1, fun y s2 h2 w Z2 H2 e2 f2 r2 => ⟨px, Z2, s2, _, f2, h2, fun z s3 h3 u Z3 H3 e3 f3 r3 => ?_⟩⟩
        split at h3
        · rename_i kk hk
          have g3 := f3.le _ _ (e3 _ _ (e2 _ _ g))
          have ew : w = kV kk := by
            cases r2 with
            | int i => cases hk; rfl
            | str z => cases hk; rfl
            | _ => cases hk
          subst ew
          refine ⟨_, DGet.k (k := kk) g3, ?_⟩
          cases eg : getK ks ts kk with
          | none =>
            rw [getK_no r n eg]
            rw [eg] at h3
            exact k z s3 h3 u Z3 H3 (e1.trans (e2.trans e3)) f3 r3
          | some t =>
            obtain ⟨u', u1, u2⟩ := getK_rp r eg
            rw [u1]
            rw [eg] at h3
            exact k t s3 h3 u' Z3 H3 (e1.trans (e2.trans e3)) f3 ((u2.mono e2).mono e3)
        · exact h3.elim
    | _ => exact h1.elim⟩
end
end G69
namespace G69
open PySem PySem.Spec PyProof.Rows L2
/-! ### x["k"] = e, x one's own dict -/
def hasK (ks : List Key) (k : Key) : Bool := ks.any fun q => decide (q = k)
theorem hasK_mem {ks : List Key} {k : Key} : hasK ks k = true ↔ k ∈ ks := by
  unfold hasK
  rw [List.any_eq_true]
  exact ⟨fun ⟨q, h1, h2⟩ => of_decide_eq_true h2 ▸ h1, fun h => ⟨k, h, decide_eq_true rfl⟩⟩
def putKs (ks : List Key) (k : Key) : List Key := if hasK ks k = true then ks else ks ++ [k]
def putXs {α : Type} (ks : List Key) (xs : List α) (k : Key) (y : α) : List α := if hasK ks k = true then (ks.zip xs).map fun p => if p.1 = k then y else p.2 else xs ++ [y]
theorem putK_zip {ks : List Key} {vs : List V} (hl : ks.length = vs.length) (k : Key) (v : V) : putK (ks.zip vs) k v = (putKs ks k).zip (putXs ks vs k v) := by
  unfold putKs putXs
  by_cases h : hasK ks k = true
  · rw [if_pos h, if_pos h]
    have ha : ((ks.zip vs).any fun kv => decide (kv.1 = k)) = true := by
      have h := hasK_mem.mp h
      rw [← zip_fst hl] at h
      obtain ⟨p, hp, e⟩ := List.mem_map.mp h
      exact List.any_eq_true.mpr ⟨p, hp, decide_eq_true e⟩
    unfold putK
    rw [if_pos ha]
    clear h ha
    induction ks generalizing vs with
    | nil => rfl
    | cons k' ks ih =>
      cases vs with
      | nil => rfl
      | cons w vs =>
        rw [List.zip_cons_cons, List.map_cons, List.map_cons, List.zip_cons_cons, ih (by simpa using hl)]
        by_cases e : k' = k
        · dsimp only
          rw [if_pos e, if_pos e]
        · dsimp only
          rw [if_neg e, if_neg e]
  · rw [if_neg h, if_neg h, putK_out (by rw [zip_fst hl]; exact fun m => h (hasK_mem.mpr m))]
    rw [List.zip_append hl]
    rfl
theorem putXs_len {α : Type} {ks : List Key} {xs : List α} (hl : ks.length = xs.length) (k : Key) (y : α) : (putKs ks k).length = (putXs ks xs k y).length := by
  unfold putKs putXs
  by_cases h : hasK ks k = true
  · rw [if_pos h, if_pos h, List.length_map, List.length_zip]; omega
  · rw [if_neg h, if_neg h, List.length_append, List.length_append]; show _ + 1 = _ + 1; omega
theorem RpL.put {M : Mo} {Z : Hp} {t : T} {v : V} (r : Rp M Z t v) (k : Key) : ∀ {ks : List Key} {ts : List T} {vs : List V}, RpL M Z ts vs → RpL M Z (putXs ks ts k t) (putXs ks vs k v) := by
  intro ks ts vs h
  unfold putXs
  by_cases hk : hasK ks k = true
  · rw [if_pos hk, if_pos hk]
    clear hk
    induction ks generalizing ts vs with
    | nil => exact .nil
    | cons k' ks ih =>
      cases h with
      | nil => exact .nil
      | cons h1 h2 =>
        rw [List.zip_cons_cons, List.map_cons, List.zip_cons_cons, List.map_cons]
        by_cases e : k' = k
        · dsimp only
          rw [if_pos e, if_pos e]
          exact .cons r (ih h2)
        · dsimp only
          rw [if_neg e, if_neg e]
          exact .cons h1 (ih h2)
  · rw [if_neg hk, if_neg hk]
    exact h.app (.cons r .nil)
def sPutD (i : Nat) (k : Key) (te : TE3) : TS3 := fun D s => te s fun y s1 => match s1[i]? with
  | some (.ow (.dic ks ts)) => ks.length ≤ 1000000 ∧ D.nx (s1.set i (.ow (.dic (putKs ks k) (putXs ks ts k y))))
  | _ => False
section
variable {X : Cx} {G : Gh} {e : Expr} {te : TE3} {pos tpos p1 p2 : Pos}
theorem q_putD (i : Nat) {x z : Str} {j : Nat} (hu : X.A.units + 1 < cLine) (he : PE X e (up G te)) (hN : X.N[i]? = some x := by rfl) (hv : Vis X.env.scope x := by first | exact Or.inl rfl | exact Or.inr (Or.inl rfl) | exact Or.inr (Or.inr rfl)) (hd : (x == ("__debug__" : Str)) = false := by decide)
    (hcd : (x == ("__classdict__" : Str)) = false := by decide) (hs : swapsWith e (some (.Subscript (.Name x p1) (.Constant (.str z) j p2) tpos)) pos.line X.env = pure false := by rfl) :
    PS X (.Assign [.Subscript (.Name x p1) (.Constant (.str z) j p2) tpos] e pos) (upS G (sPutD i (.inr z) te)) :=
  PS.imp (ps_dput hu (pv i hN hv hd hcd) pe_str he hs) fun D σ H ⟨px, Z, s, D3, fm, h, k⟩ => ⟨px, Z, s, _, fm, h, fun y s1 hy v Z1 H1 e1 f1 r1 => by
    split at hy
    · rename_i ks ts e2
      obtain ⟨hsz, hy⟩ := hy
      obtain ⟨a, h1, h2, vs, h3, h4, h5⟩ := f1.ow i _ e2
      have hl : ks.length = vs.length := by rw [h4, h5.len]
      refine ⟨_, h1, a, _, rfl, DPut.k (k := .inr z) h3 (by rw [List.length_zip]; exact Nat.lt_of_le_of_lt (Nat.min_le_left _ _) (Nat.lt_of_le_of_lt hsz (by decide))), ?_⟩
      refine k.nx _ hy σ Z1 _ e1 (f1.put e2 h1 ⟨_, upd_same.trans ?_, putXs_len h4 _ _, RpL.put r1 _ h5⟩)
      rw [putK_zip hl]
    · exact hy.elim⟩
end
end G69
namespace G69
open PySem PySem.Spec PyProof.Rows L2
/-! ### one's own dict with keys that are reckoned -/
theorem key_rel {M : Mo} {Z : Hp} {t : T} {v : V} {k : Key} (r : Rp M Z t v) (h : keyT t = some k) : v = kV k := by
  cases r <;> first | (cases h; rfl) | cases h
def tDic1 (tk tv : TE3) : TE3 := fun s Q => tk s fun x s1 => tv s1 fun y s2 => match keyT x with
  | some k => Q (.dic [k] [y]) s2
  | none => False
section
variable {X : Cx} {G : Gh} {ek ev : Expr} {tk tv : TE3} {pos : Pos}
theorem qf_dic1 (hk : PE X ek (up G tk)) (hv : PE X ev (up G tv)) : PE X (.Dict [some ek] [ev] pos) (upF G (tDic1 tk tv)) := by
  refine PE.imp (pe_disp (pps_cons hk hv pps_nil) rfl rfl (fun z => by cases z) (by show 1 ≤ 15; decide)) fun σ H Q ⟨px, Z, s, Q3, fm, h, k⟩ p np => ?_
  obtain ⟨f2, hp, hno⟩ := fm.mute (o := .dK []) np
  refine ⟨_, Z, s, _, f2.lay hp hno upd_same, h, fun x s1 hx v Z1 H1 e1 f1 r1 => ⟨_, Z1, s1, _, f1, hx, fun y s2 hy w Z2 H2 e2 f3 r2 => ?_⟩⟩
  split at hy
  · rename_i kk hkk
    obtain rfl := key_rel r1 hkk
    obtain ⟨_, _, _, hat⟩ := f3.unlay hp.2.2.1
    refine ⟨hat, [(kk, w)], rfl, by show 1 ≤ 15; decide, ?_⟩
    have em : mergeK [] [(kk, w)] = [(kk, w)] := rfl
    rw [em]
    obtain ⟨f4, hp4, hn4, h4⟩ := (f3.relay (o' := .dK [(kk, w)]) hp.2.2.1).unlay hp.2.2.1
    exact k (.dic [kk] [y]) s2 hy p Z2 _ (e1.trans e2) f4 hp4 hn4 ⟨[w], upd_same, rfl, .cons r2 .nil⟩
  · exact hy.elim
end
/-! ### x not in d, d one's own -/
def tNinD (ta : TE3) (i : Nat) : TE3 := fun s Q => ta s fun x s1 => match s1[i]?, keyT x with
  | some (.ow (.dic ks _)), some k => Q (.bl (!hasK ks k)) s1
  | _, _ => False
theorem hasK_val {k : Key} : ∀ {ks : List Key} {vs : List V}, ks.length = vs.length → (valV (ks.zip vs) k).isSome = hasK ks k
  | [], [], _ => rfl
  | q :: ks, v :: vs, h => by
    have ih := hasK_val (k := k) (ks := ks) (vs := vs) (by simpa using h)
    have e : hasK (q :: ks) k = (decide (q = k) || hasK ks k) := rfl
    rw [List.zip_cons_cons, e]
    by_cases hq : q = k
    · rw [valV_pos (p := (q, v)) hq, decide_eq_true hq]
      rfl
    · rw [valV_neg (p := (q, v)) hq, ih, decide_eq_false hq, Bool.false_or]
section
variable {X : Cx} {G : Gh} {a e : Expr} {ta te tk : TE3} {pos tpos p1 : Pos} {x : Str}
theorem q_ninD (i : Nat) (hu : X.A.units + 1 < cLine) (ha : PE X a (up G ta)) (hN : X.N[i]? = some x := by rfl) (hv : Vis X.env.scope x := by first | exact Or.inl rfl | exact Or.inr (Or.inl rfl) | exact Or.inr (Or.inr rfl)) (hd : (x == ("__debug__" : Str)) = false := by decide)
    (hcd : (x == ("__classdict__" : Str)) = false := by decide) : PE X (.Compare a [.NotIn] [.Name x p1] pos) (up G (tNinD ta i)) :=
  PE.imp (pe_cmpR (op_dNotIn hu) ha (pv i hN hv hd hcd) (by rfl)) fun σ H Q ⟨px, Z, s, Q3, fm, h, k⟩ => ⟨px, Z, s, _, fm, h, fun t s1 ht v Z1 H1 e1 f1 r1 => by
    split at ht
    · rename_i ks ts kk e2 hk
      obtain rfl := key_rel r1 hk
      obtain ⟨b, g1, hp, vs, g2, n, q⟩ := f1.ow i _ e2
      refine ⟨_, g1, b, valV (ks.zip vs) kk, rfl, DGet.k g2, ?_⟩
      rw [hasK_val (by rw [n, q.len])]
      exact k _ s1 ht _ Z1 H1 e1 f1 (.bl _)
    · exact ht.elim⟩
theorem q_tninD (i : Nat) (hu : X.A.units + 1 < cLine) (ha : PE X a (up G ta)) (hN : X.N[i]? = some x := by rfl) (hv : Vis X.env.scope x := by first | exact Or.inl rfl | exact Or.inr (Or.inl rfl) | exact Or.inr (Or.inr rfl)) (hd : (x == ("__debug__" : Str)) = false := by decide)
    (hcd : (x == ("__classdict__" : Str)) = false := by decide) : PT X (.Compare a [.NotIn] [.Name x p1] pos) (upT G (tBl (tNinD ta i))) :=
  PT.imp (pt_cmpR (op_dNotIn hu) ha (pv i hN hv hd hcd) (by rfl)) fun σ H Q h => by
    obtain ⟨px, Z, s, Q3, fm, h, k⟩ := up_bl h
    exact ⟨px, Z, s, _, fm, h, fun t s1 ht v Z1 H1 e1 f1 r1 => by
      split at ht
      · rename_i ks ts kk e2 hk
        obtain rfl := key_rel r1 hk
        obtain ⟨b, g1, hp, vs, g2, n, q⟩ := f1.ow i _ e2
        refine ⟨_, g1, b, valV (ks.zip vs) kk, rfl, DGet.k g2, ?_⟩
        rw [hasK_val (by rw [n, q.len])]
        exact k _ s1 ht _ Z1 H1 e1 f1 (.bl _)
      · exact ht.elim⟩
theorem q_tninO (i : Nat) (hK : X.K = G.M.K) (ha : PE X a (up G ta)) (hN : X.N[i]? = some x := by rfl) (hv : Vis X.env.scope x := by first | exact Or.inl rfl | exact Or.inr (Or.inl rfl) | exact Or.inr (Or.inr rfl)) (hd : (x == ("__debug__" : Str)) = false := by decide)
    (hcd : (x == ("__classdict__" : Str)) = false := by decide) : PT X (.Compare a [.NotIn] [.Name x p1] pos) (upT G (tBl (tNinO ta i))) :=
  PT.imp (pt_cmpR (l_notin hK) ha (pv i hN hv hd hcd) (by rfl)) fun σ H Q h => by
    obtain ⟨px, Z, s, Q3, fm, h, k⟩ := up_bl h
    exact ⟨px, Z, s, _, fm, h, fun t s1 ht v Z1 H1 e1 f1 r1 => by
      split at ht
      · rename_i ys e
        obtain ⟨b, vs, g1, g2, g3⟩ := f1.peekL e
        obtain ⟨⟨c1, c2⟩, ht⟩ := ht
        obtain ⟨rfl, q1⟩ := r1.flat c1
        obtain ⟨rfl, q2⟩ := g3.flat c2
        refine ⟨_, g1, .inr ⟨_, _, rfl, .inl (.inl (.inl g2)), q1, q2, ?_⟩⟩
        rw [inT_fv]
        exact k _ s1 ht _ Z1 H1 e1 f1 (.bl _)
      · exact ht.elim⟩
/-! ### d[k] = e, d one's own -/
def sPutV (i : Nat) (te tk : TE3) : TS3 := fun D s => te s fun y s1 => match s1[i]? with
  | some (.ow (.dic _ _)) => tk s1 fun z s2 => (match s2[i]?, keyT z with
    | some (.ow (.dic ks ts)), some k => ks.length ≤ 1000000 ∧ D.nx (s2.set i (.ow (.dic (putKs ks k) (putXs ks ts k y))))
    | _, _ => False)
  | _ => False
theorem q_putV (i : Nat) {ek : Expr} (hu : X.A.units + 1 < cLine) (he : PE X e (up G te)) (hk : PE X ek (up G tk)) (hN : X.N[i]? = some x := by rfl) (hv : Vis X.env.scope x := by first | exact Or.inl rfl | exact Or.inr (Or.inl rfl) | exact Or.inr (Or.inr rfl)) (hd : (x == ("__debug__" : Str)) = false := by decide)
    (hcd : (x == ("__classdict__" : Str)) = false := by decide) (hs : swapsWith e (some (.Subscript (.Name x p1) ek tpos)) pos.line X.env = pure false := by rfl) :
    PS X (.Assign [.Subscript (.Name x p1) ek tpos] e pos) (upS G (sPutV i te tk)) :=
  PS.imp (ps_dput hu (pv i hN hv hd hcd) hk he hs) fun D σ H ⟨px, Z, s, D3, fm, h, k⟩ => ⟨px, Z, s, _, fm, h, fun y s1 hy v Z1 H1 e1 f1 r1 => by
    split at hy
    · rename_i ks0 ts0 e0
      obtain ⟨a0, g1, _, _⟩ := f1.ow i _ e0
      refine ⟨_, g1, px, Z1, s1, _, f1, hy, fun z s2 hz w Z2 H2 e2 f2 r2 => ?_⟩
      split at hz
      · rename_i ks ts kk e3 hk
        obtain ⟨hsz, hz⟩ := hz
        obtain rfl := key_rel r2 hk
        obtain ⟨a, h1, h2, vs, h3, h4, h5⟩ := f2.ow i _ e3
        rw [g1] at h1
        cases h1
        have hl : ks.length = vs.length := by rw [h4, h5.len]
        refine ⟨a0, _, rfl, DPut.k h3 (by rw [List.length_zip]; exact Nat.lt_of_le_of_lt (Nat.min_le_left _ _) (Nat.lt_of_le_of_lt hsz (by decide))), ?_⟩
        refine k.nx _ hz σ Z2 _ (e1.trans e2) (f2.put e3 g1 ⟨_, upd_same.trans ?_, putXs_len h4 _ _, RpL.put (r1.mono e2) _ h5⟩)
        rw [putK_zip hl]
      · exact hz.elim
    · exact hy.elim⟩
/-! ### i += n -/
def sAug (i : Nat) (te : TE3) : TS3 := fun D s => match s[i]? with
  | some (.sh (.int a)) => te s fun y s1 => (match y with
    | .int b => D.nx (s1.set i (.sh (.int (a + b))))
    | _ => False)
  | _ => False
theorem q_aug {i : Nat} (hN : X.N.Nodup) (hi : X.N[i]? = some x) (hx : Loc X.env.scope x) (he : PE X e (up G te)) (hf : X.fn x = true ∨ X.env.scope.names.lookup x = some .local := by first | exact .inl rfl | exact .inr rfl) :
    PS X (.AugAssign (.Name x p1) .Add e pos) (upS G (sAug i te)) :=
  PS.imp (ps_aug hN hi hx he ip_add hf) fun D σ H ⟨px, Z, s, D3, fm, h, k⟩ => by
    unfold sAug at h
    split at h
    · rename_i a e0
      obtain ⟨v, h1, r⟩ := fm.sh i _ e0
      cases r
      refine ⟨_, h1, px, Z, s, _, fm, h, fun y s1 hy w Z1 H1 e1 f1 r1 => ?_⟩
      split at hy
      · rename_i b
        cases r1
        have hl : i < s1.length := by
          rw [← f1.len]
          exact (List.getElem?_eq_some_iff.mp h1).1
        exact ⟨_, _, rfl, rfl, k.nx _ hy _ Z1 H1 e1 (f1.setSh hl (.int _))⟩
      · exact hy.elim
    · exact h.elim
end
/-! ### a, b, c = two new lists, any -/
def sPar3X (i j l : Nat) (ta tb tc : TE3) : TS3 := fun D s => ta s fun x s1 => tb s1 fun y s2 => tc s2 fun z s3 => match s3[i]?, s3[j]?, s3[l]? with
  | some _, some _, some _ => D.nx (((s3.set i (.ow x)).set j (.ow y)).set l (.sh z))
  | _, _, _ => False
theorem q_par3X {X : Cx} {G : Gh} {pos : Pos} {i j l : Nat} {x y z : Str} {e1 e2 e3 : Expr} {ta tb tc : TE3} {px' py pz pt : Pos} {kt k2 : Nat} {pt2 : Pos} (hc : X.calm = true) (hN : X.N.Nodup) (hi : X.N[i]? = some x) (hj : X.N[j]? = some y) (hl : X.N[l]? = some z) (hij : i ≠ j) (hil : i ≠ l) (hjl : j ≠ l)
    (hx : X.env.scope.names.lookup x = some .local) (hy : X.env.scope.names.lookup y = some .local) (hz : X.env.scope.names.lookup z = some .local) (ha : PE X e1 (upF G ta)) (hb : PE X e2 (upF G tb)) (hc' : PE X e3 (up G tc))
    (hw : swappedStores [.Tuple [.Name x px', .Name y py, .Name z pz] kt pt] (.Tuple [e1, e2, e3] k2 pt2) X.env = pure (some [x, y, z]))
    (hs : swapsWithSole [.Tuple [.Name x px', .Name y py, .Name z pz] kt pt] (.Tuple [e1, e2, e3] k2 pt2) pos.line X.env = pure false := by rfl)
    (hs1 : starEach [e1, e2, e3] X.env = (false, eval e1 X.env) :: starEach [e2, e3] X.env := by rfl) (hs2 : starEach [e2, e3] X.env = (false, eval e2 X.env) :: starEach [e3] X.env := by rfl) (hs3 : starEach [e3] X.env = (false, eval e3 X.env) :: starEach [] X.env := by rfl) :
    PS X (.Assign [.Tuple [.Name x px', .Name y py, .Name z pz] kt pt] (.Tuple [e1, e2, e3] k2 pt2) pos) (upS G (sPar3X i j l ta tb tc)) :=
  PS.imp (ps_par3 hc hN hi hj hl hij hil hjl hx hy hz (pa_cons ha (pa_cons hb (pa_cons hc' pa_nil hs3) hs2) hs1) hw hs) fun D σ H ⟨px, Z, s, D3, fm, h, k⟩ => ⟨px, Z, s, _, fm, h, fun t s1 ht a Z1 H1 e1 f1 hp hn ow => by
    obtain ⟨o, ho⟩ := ow.at
    refine ⟨_, Z1, s1, _, f1.lay hp hn ho (ow.nt ho), ht, fun u s2 hu b Z2 H2 e2 f2 hp2 hn2 ow2 => ?_⟩
    obtain ⟨o2, ho2⟩ := ow2.at
    refine ⟨_, Z2, s2, _, f2.lay hp2 hn2 ho2 (ow2.nt ho2), hu, fun v s3 hv c Z3 H3 e3 f3 r3 => ⟨_, _, _, rfl, ?_⟩⟩
    obtain ⟨f4, hp4, hn4, ho4⟩ := f3.unlay hp2.2.2.1
    obtain ⟨f5, hp5, hn5, ho5⟩ := f4.unlay hp.2.2.1
    have hab : b ≠ a := fun z => by
      have := hp2.2.2.1
      rw [z, upd_same] at this
      cases this
    have hpb : Pv G px Z3 b := ⟨hp4.1, hp4.2.1, by have := hp4.2.2.1; rw [upd_ne hab] at this; exact this, hp4.2.2.2⟩
    split at hv
    · rename_i w1 w2 w3 g1 g2 g3
      have li : i < s3.length := (List.getElem?_eq_some_iff.mp g1).1
      have lj : j < s3.length := (List.getElem?_eq_some_iff.mp g2).1
      have ll : l < s3.length := (List.getElem?_eq_some_iff.mp g3).1
      have f6 := f5.setOw li hp5 hn5 (ow.mono (e2.trans e3) fun o' q => by rw [ho] at q; cases q; exact ho5)
      have f7 := f6.setOw (i := j) (t := u) (by rw [List.length_set]; exact lj) hpb (fun m t e q => by
        rcases set_at e with ⟨hm, z⟩ | ⟨hm, e⟩
        · subst hm
          rw [List.getElem?_set_self (by rw [f5.len]; exact li)] at q
          cases q
          exact hab rfl
        · rw [List.getElem?_set_ne (fun z => hm z.symm)] at q
          exact hn4 m t e q) (ow2.mono e3 fun o' q => by rw [ho2] at q; cases q; exact ho4)
      exact k.nx _ hv _ Z3 H3 (e1.trans (e2.trans e3)) (f7.setSh (by rw [List.length_set, List.length_set]; exact ll) r3)
    · exact hv.elim⟩
end G69
namespace G69
open PySem PySem.Spec PyProof.Rows L2
/-! ### a known dict that is walked by its items within a comprehension: the dict is locked meanwhile, and hidden -/
mutual
def ndT : T → Bool
  | .non => true
  | .bl _ => true
  | .int _ => true
  | .str _ => true
  | .ty _ => true
  | .lst ts => ndTs ts
  | .tup ts => ndTs ts
  | .dic _ _ => false
  | .ins _ ts => ndTs ts
  | .err _ ts => ndTs ts
  | .drw => true
  | .scr _ => true
  | .ob _ => true
def ndTs : List T → Bool
  | [] => true
  | t :: ts => ndT t && ndTs ts
end
theorem ndTs_mem : ∀ {ts : List T}, ndTs ts = true → ∀ t ∈ ts, ndT t = true
  | [], _, _, h => by cases h
  | x :: xs, q, t, h => by
    rw [ndTs, Bool.and_eq_true] at q
    rcases List.mem_cons.mp h with rfl | h
    · exact q.1
    · exact ndTs_mem q.2 t h
theorem ndTs_all : ∀ {ts : List T}, (∀ t ∈ ts, ndT t = true) → ndTs ts = true
  | [], _ => rfl
  | x :: xs, q => by
    rw [ndTs, q x List.mem_cons_self, ndTs_all fun t h => q t (List.mem_cons_of_mem _ h)]
    rfl
def woA (Z : Hp) (d : Addr) : Hp := fun a => if a = d then none else Z a
theorem woA_same {Z : Hp} {d : Addr} : woA Z d d = none := by unfold woA; rw [if_pos rfl]
theorem woA_ne {Z : Hp} {d a : Addr} (h : a ≠ d) : woA Z d a = Z a := by unfold woA; rw [if_neg h]
theorem woA_some {Z : Hp} {d a : Addr} {o : HO} (h : woA Z d a = some o) : a ≠ d ∧ Z a = some o := by
  by_cases e : a = d
  · subst e
    rw [woA_same] at h
    cases h
  · rw [woA_ne e] at h
    exact ⟨e, h⟩
theorem woA_none {Z : Hp} {d a : Addr} (h : Z a = none) : woA Z d a = none := by
  by_cases e : a = d
  · subst e
    exact woA_same
  · rw [woA_ne e]
    exact h
theorem woA_sub {Z : Hp} {d : Addr} : Same (woA Z d) Z := fun _ _ h => (woA_some h).2
section
variable {M : Mo} {Z : Hp} {d : Addr} {kvs : List (Key × V)}
theorem woA_at (hd : Z d = some (.dK kvs)) {a : Addr} {o : HO} (h : Z a = some o) (n : o ≠ .dK kvs) : woA Z d a = some o := by
  rw [woA_ne (ne_of h hd n)]
  exact h
mutual
theorem Rp.woA (hd : Z d = some (.dK kvs)) : ∀ {t : T} {v : V}, Rp M Z t v → ndT t = true → Rp M (woA Z d) t v
  | _, _, .non, _ => .non
  | _, _, .bl b, _ => .bl b
  | _, _, .int i, _ => .int i
  | _, _, .str h, _ => .str h
  | _, _, .ty n, _ => .ty n
  | _, _, .lst h n l, q => .lst (woA_at hd h (by intro z; cases z)) n (RpL.woA hd l (by rw [ndT] at q; exact q))
  | _, _, .tup h n l, q => .tup (woA_at hd h (by intro z; cases z)) n (RpL.woA hd l (by rw [ndT] at q; exact q))
  | _, _, .dic _ _ _, q => by rw [ndT] at q; cases q
  | _, _, .ins g h e l, q => .ins g (woA_at hd h (by intro z; cases z)) (woA_at hd e (by intro z; cases z)) (RpL.woA hd l (by rw [ndT] at q; exact q))
  | _, _, .err g h e l, q => .err g (woA_at hd h (by unfold ErO; intro z; cases z)) (e.imp (fun q => q) fun ⟨x, y, z⟩ => ⟨x, y, woA_at hd z (by intro z; cases z)⟩) (RpL.woA hd l (by rw [ndT] at q; exact q))
  | _, _, .drw h, _ => .drw h
  | _, _, .scr h, _ => .scr (h.elim (fun h => .inl (h.elim (fun h => .inl (woA_at hd h (by intro z; cases z))) fun ⟨o, h⟩ => .inr ⟨o, woA_at hd h (by intro z; cases z)⟩)) .inr)
  | _, _, .ob v, _ => .ob v
theorem RpL.woA (hd : Z d = some (.dK kvs)) : ∀ {ts : List T} {vs : List V}, RpL M Z ts vs → ndTs ts = true → RpL M (woA Z d) ts vs
  | _, _, .nil, _ => .nil
  | _, _, .cons h l, q => .cons (Rp.woA hd h (by rw [ndTs, Bool.and_eq_true] at q; exact q.1)) (RpL.woA hd l (by rw [ndTs, Bool.and_eq_true] at q; exact q.2))
end
theorem Ow.woA {q : Option Addr} {H : Hp} {t : T} {a : Addr} {o : HO} (hd : Z d = some (.dK kvs)) (h : Ow M q Z H t a) (n : ndT t = true) (ha : a ≠ d) : Ow M q (G69.woA Z d) (upd H d o) t a := by
  cases t with
  | lst ts => obtain ⟨vs, h1, h2, h3⟩ := h; exact ⟨vs, by rw [upd_ne ha]; exact h1, h2, h3.woA hd (by rw [ndT] at n; exact n)⟩
  | dic ks ts => rw [ndT] at n; cases n
  | ins c ts => obtain ⟨hq, C, dx, vs, h0, h1, h2, h3⟩ := h; exact ⟨hq, C, dx, vs, h0, by rw [upd_ne ha]; exact h1, woA_at hd h2 (by intro z; cases z), h3.woA hd (by rw [ndT] at n; exact n)⟩
  | _ => exact h
end
def hide1 : Sl → Sl
  | .no => .no
  | .sh t => (match ndT t with
    | true => .sh t
    | false => .no)
  | .ow t => (match ndT t with
    | true => .ow t
    | false => .no)
def hideD (s : S3) : S3 := s.map hide1
theorem hideD_sh {s : S3} {i : Nat} {t : T} (h : (hideD s)[i]? = some (.sh t)) : s[i]? = some (.sh t) ∧ ndT t = true := by
  unfold hideD at h
  rw [List.getElem?_map] at h
  cases e : s[i]? with
  | none => rw [e] at h; cases h
  | some x =>
    rw [e] at h
    cases x with
    | no => cases h
    | sh u =>
      cases q : ndT u with
      | true =>
        have : hide1 (.sh u) = .sh u := by simp only [hide1, q]
        rw [Option.map_some, this] at h
        cases h
        exact ⟨rfl, q⟩
      | false =>
        have : hide1 (.sh u) = .no := by simp only [hide1, q]
        rw [Option.map_some, this] at h
        cases h
    | ow u =>
      cases q : ndT u with
      | true =>
        have : hide1 (.ow u) = .ow u := by simp only [hide1, q]
        rw [Option.map_some, this] at h
        cases h
      | false =>
        have : hide1 (.ow u) = .no := by simp only [hide1, q]
        rw [Option.map_some, this] at h
        cases h
theorem hideD_ow {s : S3} {i : Nat} {t : T} (h : (hideD s)[i]? = some (.ow t)) : s[i]? = some (.ow t) ∧ ndT t = true := by
  unfold hideD at h
  rw [List.getElem?_map] at h
  cases e : s[i]? with
  | none => rw [e] at h; cases h
  | some x =>
    rw [e] at h
    cases x with
    | no => cases h
    | ow u =>
      cases q : ndT u with
      | true =>
        have : hide1 (.ow u) = .ow u := by simp only [hide1, q]
        rw [Option.map_some, this] at h
        cases h
        exact ⟨rfl, q⟩
      | false =>
        have : hide1 (.ow u) = .no := by simp only [hide1, q]
        rw [Option.map_some, this] at h
        cases h
    | sh u =>
      cases q : ndT u with
      | true =>
        have : hide1 (.sh u) = .sh u := by simp only [hide1, q]
        rw [Option.map_some, this] at h
        cases h
      | false =>
        have : hide1 (.sh u) = .no := by simp only [hide1, q]
        rw [Option.map_some, this] at h
        cases h
theorem hideD_len (s : S3) : (hideD s).length = s.length := by unfold hideD; rw [List.length_map]
theorem hide_sh {t : T} (h : ndT t = true) : hide1 (.sh t) = .sh t := by simp only [hide1, h]
theorem hide_ow {t : T} (h : ndT t = true) : hide1 (.ow t) = .ow t := by simp only [hide1, h]
section
variable {G : Gh} {px Z H Z1 H1 : Hp} {σ σ1 : L2.St} {s s1 : S3} {d : Addr} {kvs : List (Key × V)} {od : Obj}
abbrev Gh.woA (G : Gh) (d : Addr) : Gh := ⟨G.M, G69.woA G.H0 d, G69.woA G.Z0 d, G.q⟩
theorem Fm.lockD (f : Fm G px Z H σ s) (hd : Z d = some (.dK kvs)) (od : Obj) : Fm (G.woA d) (upd px d (.frz od (.dK kvs))) (woA Z d) (upd H d (.frz od (.dK kvs))) σ (hideD s) where
  le := fun a o h => by
    obtain ⟨n, h⟩ := woA_some h
    rw [upd_ne n]
    exact f.le a o h
  z0 := fun a o h => by
    obtain ⟨n, h⟩ := woA_some h
    rw [woA_ne n]
    exact f.z0 a o h
  nw := fun a h1 h2 => by
    have n : a ≠ d := fun z => h2 (by rw [z]; exact woA_same)
    rw [woA_ne n] at h2
    have h1 : woA G.Z0 d a = none := h1
    rw [woA_ne n] at h1
    show woA G.H0 d a = none
    rw [woA_ne n]
    exact f.nw a h1 h2
  kp := fun a o h hn => by
    obtain ⟨n, h⟩ := woA_some h
    rw [upd_ne n]
    exact f.kp a o h hn
  dr := by
    have h := f.dr
    have g := f.dr.offZ hd
    show DrOk G.M.D _ _
    revert h g
    cases G.M.D with
    | none => intro _ _; trivial
    | some x =>
      obtain ⟨a, l, c⟩ := x
      intro h g
      exact ⟨h.1.off g, woA_none h.2.1, woA_none h.2.2.1, woA_none h.2.2.2⟩
  tb := Tb.upd f.tb (f.le d _ hd) id
  zt := fun a o h => f.zt a o (woA_some h).2
  h0 := fun a o h => f.h0 a o (woA_some h).2
  len := by rw [hideD_len]; exact f.len
  sh := fun i t e => by
    obtain ⟨e, n⟩ := hideD_sh e
    obtain ⟨v, h1, h2⟩ := f.sh i t e
    exact ⟨v, h1, h2.woA hd n⟩
  ow := fun i t e => by
    obtain ⟨e, n⟩ := hideD_ow e
    obtain ⟨a, h1, h2, h3⟩ := f.ow i t e
    have ha : a ≠ d := fun z => by
      have := h2.1
      rw [z, hd] at this
      cases this
    exact ⟨a, h1, ⟨woA_none h2.1, woA_none h2.2.1, by rw [upd_ne ha]; exact h2.2.2.1, h2.2.2.2⟩, h3.woA hd n ha⟩
  inj := fun i j a t u e1 e2 => f.inj i j a t u (hideD_ow e1).1 (hideD_ow e2).1
  px := fun a o e => by
    by_cases ha : a = d
    · subst ha
      rw [upd_same] at e
      cases e
      exact ⟨upd_same, woA_same, woA_same, f.dr.offZ hd, trivial⟩
    · rw [upd_ne ha] at e
      obtain ⟨h1, h2, h3, h4, h5⟩ := f.px a o e
      exact ⟨by rw [upd_ne ha]; exact h1, woA_none h2, woA_none h3, h4, h5⟩
theorem back_same (hd : Z d = some (.dK kvs)) (hz : Same (woA Z d) Z1) : Same Z (upd Z1 d (.dK kvs)) := fun a o h => by
  by_cases ha : a = d
  · subst ha
    rw [hd] at h
    cases h
    exact upd_same
  · rw [upd_ne ha]
    exact hz a o (by rw [woA_ne ha]; exact h)
theorem Fm.unlockD (f : Fm G px Z H σ s) (hd : Z d = some (.dK kvs)) (f1 : Fm (G.woA d) (upd px d (.frz od (.dK kvs))) Z1 H1 σ1 s1) (hz : Same (woA Z d) Z1) : Fm G px (upd Z1 d (.dK kvs)) (upd H1 d (.dK kvs)) σ1 s1 := by
  obtain ⟨x1, x2, _, x4, _⟩ := f1.px d _ upd_same
  have hpx : ∀ {a o}, px a = some o → a ≠ d := fun e z => by
    have := (f.px _ _ e).2.1
    rw [z, hd] at this
    cases this
  exact {
    le := fun a o h => by
      by_cases ha : a = d
      · subst ha
        rw [upd_same] at h ⊢
        exact h
      · rw [upd_ne ha] at h ⊢
        exact f1.le a o h
    z0 := f.z0.trans (back_same hd hz)
    nw := fun a h1 h2 => by
      by_cases ha : a = d
      · subst ha
        exact f.nw a h1 (by rw [hd]; intro z; cases z)
      · rw [upd_ne ha] at h2
        have := f1.nw a (show woA G.Z0 d a = none by rw [woA_ne ha]; exact h1) h2
        have this : woA G.H0 d a = none := this
        rw [woA_ne ha] at this
        exact this
    kp := fun a o h n => by
      by_cases ha : a = d
      · subst ha
        have q := f.kp a o h n
        rw [f.le a _ hd] at q
        cases q
        exact upd_same
      · rw [upd_ne ha]
        exact f1.kp a o (show woA G.H0 d a = some o by rw [woA_ne ha]; exact h) n
    dr := by
      have h := f1.dr
      have g := f.dr.offZ hd
      have h : DrOk G.M.D H1 Z1 := h
      revert h g
      cases G.M.D with
      | none => intro _ _; trivial
      | some x =>
        obtain ⟨a, l, c⟩ := x
        intro g h
        exact ⟨h.1.off g, by rw [upd_ne g.1.symm]; exact h.2.1, by rw [upd_ne g.2.1.symm]; exact h.2.2.1, by rw [upd_ne g.2.2.symm]; exact h.2.2.2⟩
    tb := Tb.upd f1.tb x1 id
    zt := fun a o h => by
      by_cases ha : a = d
      · subst ha
        rw [upd_same] at h
        cases h
        trivial
      · rw [upd_ne ha] at h
        exact f1.zt a o h
    h0 := f.h0
    len := f1.len
    sh := fun i t e => let ⟨v, h1, h2⟩ := f1.sh i t e; ⟨v, h1, h2.mono (Same.new x2)⟩
    ow := fun i t e => by
      obtain ⟨a, h1, h2, h3⟩ := f1.ow i t e
      have ha : a ≠ d := fun z => by
        have := h2.2.2.1
        rw [z, upd_same] at this
        cases this
      have h4 : woA G.H0 d a = none := h2.2.1
      rw [woA_ne ha] at h4
      have h5 := h2.2.2.1
      rw [upd_ne ha] at h5
      exact ⟨a, h1, ⟨by rw [upd_ne ha]; exact h2.1, h4, h5, h2.2.2.2⟩, h3.mono (Same.new x2) fun o q => by rw [upd_ne ha]; exact q⟩
    inj := f1.inj
    px := fun a o e => by
      have ha := hpx e
      obtain ⟨h1, h2, h3, h4, h5⟩ := f1.px a o (by rw [upd_ne ha]; exact e)
      have h3 : woA G.H0 d a = none := h3
      rw [woA_ne ha] at h3
      exact ⟨by rw [upd_ne ha]; exact h1, by rw [upd_ne ha]; exact h2, h3, h4, h5⟩ }
end
def kT : Key → T
  | .inl i => .int i
  | .inr z => .str z
def kOk : Key → Bool
  | .inl _ => true
  | .inr z => decide (z.length ≤ sizeLine)
theorem kT_rp {M : Mo} {Z : Hp} {k : Key} (h : kOk k = true) : Rp M Z (kT k) (kV k) := by
  cases k with
  | inl i => exact .int i
  | inr z => exact .str (of_decide_eq_true h)
def itmT (ks : List Key) (ts : List T) : List T := (ks.zip ts).map fun p => T.tup [kT p.1, p.2]
theorem e_tLcI (i : Nat) (g : TG3) (tt : TT3) (te : TE3) (vs : List Nat) : ∃ f : TE3, f = fun s Q => (match s[i]? with
  | some (.sh (.dic ks ts)) => (ks.length ≤ 1000000 ∧ ks.all kOk = true ∧ ndTs ts = true) ∧ lcW g tt te vs (fun acc s2 => Q (.lst acc) (back3 (hideD s) s2 vs)) (itmT ks ts) [] (hideD s)
  | _ => False) := ⟨_, rfl⟩
noncomputable def tLcI (i : Nat) (g : TG3) (tt : TT3) (te : TE3) (vs : List Nat) : TE3 := Classical.choose (e_tLcI i g tt te vs)
theorem u_tLcI (i : Nat) (g : TG3) (tt : TT3) (te : TE3) (vs : List Nat) : tLcI i g tt te vs = fun s Q => (match s[i]? with
  | some (.sh (.dic ks ts)) => (ks.length ≤ 1000000 ∧ ks.all kOk = true ∧ ndTs ts = true) ∧ lcW g tt te vs (fun acc s2 => Q (.lst acc) (back3 (hideD s) s2 vs)) (itmT ks ts) [] (hideD s)
  | _ => False) := Classical.choose_spec (e_tLcI i g tt te vs)
theorem PE.ex {X : Cx} {e : Expr} {ι : Type} {t : ι → TE} (h : ∀ i, PE X e (t i)) : PE X e (fun σ H Q => ∃ i, t i σ H Q) := ⟨fun pins s σ H Q I ⟨i, q⟩ => (h i).run pins s σ H Q I q⟩
abbrev gho (G : Gh) (p : Hp × Hp) : Gh := ⟨G.M, p.1, p.2, G.q⟩
section
variable {X : Cx} {G : Gh} {g : TG3} {tt : TT3} {te : TE3} {is : List Nat} {own : List (Str × Nat)} {i : Nat}
theorem up_lcI (hsub : ∀ i ∈ is, i ∈ own.map (·.2)) {σ : L2.St} {H : Hp} {Q : VK} (h : upF G (tLcI i g tt te (own.map (·.2))) σ H Q) :
    tLockE (fun σ H Q => ∃ p : Hp × Hp, tLc (iItems (tVar i)) (upG (gho G p) is g) (upT (gho G p) tt) (up (gho G p) te) (own.map (·.2)) σ H Q) σ H Q := by
  generalize hvs : own.map (·.2) = vs at h hsub ⊢
  obtain ⟨px, Z, s, Q3, fm, h, k⟩ := h
  rw [u_tLcI] at h
  split at h
  · rename_i ks ts es
    obtain ⟨⟨hk1, hk2, hnd⟩, hf⟩ := h
    obtain ⟨v, hσ, rv⟩ := fm.sh i _ es
    cases rv with
    | dic hd n r =>
    rename_i d ws
    have hkw : ks.length = ws.length := by rw [n, r.len]
    refine ⟨d, _, fm.le d _ hd, True.intro, fun od => ⟨(woA G.H0 d, woA G.Z0 d), ?_⟩⟩
    have f1 := fm.lockD hd od
    have hHd : (upd H d (.frz od (.dK (ks.zip ws)))) d = some (.frz od (.dK (ks.zip ws))) := upd_same
    refine ⟨.ref d, hσ, d, od, _, rfl, hHd, fun D nD => ?_⟩
    have hdD : d ≠ D := ne_of_none hHd nD
    generalize upd H d (.frz od (.dK (ks.zip ws))) = HL at f1 nD hHd ⊢
    obtain ⟨f1D, hpD, hnD⟩ := f1.mute (o := .lst []) nD
    have fW := (f1D.wipe vs).lay (o := .lst []) hpD (fun i t e q => hnD i t (by
        by_cases hi : i ∈ vs
        · exfalso
          have := L2.wipe_some q
          exact this.2 hi
        · rw [wipe3_out hi] at e
          exact e) (L2.wipe_some q).1) upd_same
    have hlt0 : (itmT ks ts).length = ts.length := by unfold itmT; rw [List.length_map, List.length_zip, n, Nat.min_self]
    have hlz : (ks.zip ws).length = ts.length := by rw [List.length_zip, hkw, Nat.min_self, r.len]
    let Pv : Nat → Hp → Prop := fun i H => ∃ Z' s' acc va, Same (woA Z d) Z' ∧ Fm (G.woA d) (upd (upd px d (.frz od (.dK (ks.zip ws)))) D (.lst va)) Z' H (L2.wipe σ vs) (wipe3 s' vs) ∧ RpL G.M Z' acc va ∧ acc.length ≤ i ∧ lcW g tt te vs (fun acc s2 => Q3 (.lst acc) (back3 (hideD s) s2 vs)) ((itmT ks ts).drop i) acc s'
    have hd0 : Pv 0 (upd HL D (.lst [])) := ⟨woA Z d, hideD s, [], [], fun _ _ q => q, fW, .nil, Nat.zero_le _, by rw [List.drop_zero]; exact hf⟩
    refine ⟨fun i m H => m = ts.length - i ∧ i ≤ ts.length ∧ Pv i H, ⟨_, rfl, Nat.zero_le _, hd0⟩, ?_⟩
    rintro i m H ⟨rfl, hil, Z', s', acc, va, e', f', ra, hl, hf'⟩
    have hFd : H d = some (.frz od (.dK (ks.zip ws))) := (f'.px d _ (by rw [upd_ne hdD, upd_same])).1
    by_cases hlt : i < ts.length
    · refine .inr ⟨⟨hFd, by rw [hlz]; exact hlt⟩, Pv (i + 1), fun H2 q => ⟨ts.length - (i + 1), by omega, rfl, hlt, q⟩, fun x H' y => ?_⟩
      obtain ⟨Tn, kk, vv, hkv, rfl, hTn, rfl⟩ := y
      rw [List.getElem?_zip_eq_some] at hkv
      obtain ⟨hki, hvi⟩ := hkv
      obtain ⟨t, hti, rt⟩ := r.get2 hvi
      have hti' : (itmT ks ts)[i]? = some (T.tup [kT kk, t]) := by
        unfold itmT
        rw [List.getElem?_map, ((List.getElem?_zip_eq_some (z := (kk, t))).mpr ⟨hki, hti⟩)]
        rfl
      have gw := Gw.new (o := .tup [kV kk, vv]) f'.le hTn
      have hko : kOk kk = true := List.all_eq_true.mp hk2 kk (List.mem_of_getElem? hki)
      have rt' := (rt.woA hd (ndTs_mem hnd t (List.mem_of_getElem? hti))).mono e'
      have rr : Rp G.M (upd Z' Tn (.tup [kV kk, vv])) (.tup [kT kk, t]) (.ref Tn) := .tup upd_same (by show 2 ≤ sizeLine; decide) (.cons (kT_rp hko) (.cons (rt'.mono gw.zz) .nil))
      rw [drop_at hti'] at hf'
      have e2 := e'.trans gw.zz
      refine ⟨_, _, _, _, _, f'.grow gw, rr, hf', fun s2 h2 σ2 f2 o2 => ?_⟩
      have ow : L2.wipe σ2 vs = L2.wipe σ vs := wipe_only ⟨o2.1, fun j hj => o2.2 j fun z => hj (hsub j z)⟩
      refine ⟨ow, _, _, s2, _, f2, h2, fun b s3 h3 Z3 H3 e3 f3 => ?_⟩
      cases b with
      | true =>
        rw [if_pos rfl]
        refine ⟨_, Z3, s3, _, f3, h3, fun yt s4 h4 yv Z4 H4 e4 f4 r4 => ?_⟩
        have hn4 := f4.px D _ upd_same
        refine ⟨va, hn4.1, by rw [← ra.len]; exact Nat.lt_of_lt_of_le (Nat.lt_of_le_of_lt hl hlt) (by rw [← n]; exact Nat.le_trans hk1 (by decide)), Z4, s4, acc ++ [yt], va ++ [yv], e2.trans (e3.trans e4), ?_, ?_, by rw [List.length_append]; show acc.length + 1 ≤ i + 1; omega, h4⟩
        · have f5 := (f4.wipe vs).relay (o' := .lst (va ++ [yv])) hpD.2.2.1
          rw [ow] at f5
          exact f5
        · exact (ra.mono (gw.zz.trans (e3.trans e4))).app (.cons r4 .nil)
      | false =>
        rw [if_neg Bool.false_ne_true]
        have f5 := f3.wipe vs
        rw [ow] at f5
        exact ⟨Z3, s3, acc, va, e2.trans e3, f5, ra.mono (gw.zz.trans e3), Nat.le_succ_of_le hl, h3⟩
    · have e : i = ts.length := by omega
      subst e
      rw [List.drop_of_length_le (by rw [hlt0]; exact Nat.le_refl _)] at hf'
      refine .inl ⟨⟨hFd, by rw [hlz]; exact Nat.le_refl _⟩, hFd, ?_⟩
      obtain ⟨f0, hp, hno, ha⟩ := f'.unlay hpD.2.2.1
      have fb : Fm (G.woA d) (upd px d (.frz od (.dK (ks.zip ws)))) Z' H σ (back3 (hideD s) s' vs) := f1.back e' f0
      have fu := fm.unlockD hd fb e'
      have hDd : D ≠ d := fun z => hdD z.symm
      have h4 : woA G.H0 d D = none := hp.2.1
      rw [woA_ne hDd] at h4
      have h5 := hp.2.2.1
      rw [upd_ne hDd] at h5
      have zd : Z' d = none := (f'.px d _ (by rw [upd_ne hdD, upd_same])).2.1
      refine k (.lst acc) _ hf' D _ _ (back_same hd e') fu ⟨by rw [upd_ne hDd]; exact hp.1, h4, h5, hp.2.2.2⟩ (fun j t e q => ?_) ⟨va, by rw [upd_ne hDd]; exact ha, Nat.le_trans hl (by rw [← n]; exact Nat.le_trans hk1 (by decide)), ra.mono (Same.new zd)⟩
      rcases back3_at e with ⟨h1, h2⟩ | ⟨_, h2⟩
      · exact hno j t (by rw [wipe3_out h1]; exact h2) (by rw [L2.wipe_out h1]; exact q)
      · rcases h2 with h2 | ⟨_, h2, _⟩ <;> cases h2
  · exact h.elim
theorem qf_lcI {elt : Expr} {elts : List Expr} {kk : Nat} {tpos p1 apos cpos : Pos} {ifs : List Expr} {scope : Scope} {pos : Pos} {x : Str} (hsub : ∀ i ∈ is, i ∈ own.map (·.2)) (hc : X.calm = true) (hN : X.N.Nodup) (ok : BlkOk X.N X.env.scope scope own)
    (hg : ∀ (p : Hp × Hp) (s : Shared) (H : Hp) (C : Addr) (cl : List (Str × Addr)) (fp : List Addr), PG (X.blk s H scope (compEnvC scope cl C X.env) fp) (.Tuple elts kk tpos) (upG (gho G p) is g)) (ht : ∀ (p : Hp × Hp) (s : Shared) (H : Hp) (C : Addr) (cl : List (Str × Addr)) (fp : List Addr), PTs (X.blk s H scope (compEnvC scope cl C X.env) fp) ifs (upT (gho G p) tt))
    (he : ∀ (p : Hp × Hp) (s : Shared) (H : Hp) (C : Addr) (cl : List (Str × Addr)) (fp : List Addr), PE (X.blk s H scope (compEnvC scope cl C X.env) fp) elt (up (gho G p) te))
    (hi : X.N[i]? = some x := by rfl) (hv : Vis X.env.scope x := by first | exact Or.inl rfl | exact Or.inr (Or.inl rfl) | exact Or.inr (Or.inr rfl)) (hd : (x == ("__debug__" : Str)) = false := by decide)
    (hcd : (x == ("__classdict__" : Str)) = false := by decide) (hbase : attributeBase (.Name x p1) "items" X.env (eval (.Name x p1) X.env) = eval (.Name x p1) X.env := by rfl) (hline : (apos.endLine == cpos.line) = true := by rfl)
    (hs : ∀ y, foldedSetIterable (.Call (.Attribute (.Name x p1) "items" apos) [] [] cpos) X.env y = pure y := by intro _; rfl) :
    PE X (.ListComp elt [⟨.Tuple elts kk tpos, .Call (.Attribute (.Name x p1) "items" apos) [] [] cpos, ifs, 0⟩] scope pos) (upF G (tLcI i g tt te (own.map (·.2)))) :=
  PE.imp (pe_lock (PE.ex fun p => pe_lc hc hN (pi_items (pv i hi hv hd hcd) hbase hline) ok (hg p) (ht p) (he p) hs)) fun _ _ _ h => up_lcI hsub h
end
end G69
namespace G69
open PySem PySem.Spec PyProof.Rows L2
/-! ### zip of a text and a row -/
/-- the text's signs and the row at q as it stands at each turn -/
def ItzS (K : PySem.W.Frag) (z : Str) (c : Bool) (q : Addr) : It :=
  ⟨fun i H => i < z.cps.size ∧ ∃ ys y, Sqx K c H q ys ∧ ys[i]? = some y,
    fun i H v H' => ∃ T d y, (v = .ref T ∧ H T = none ∧ H' = upd H T (.tup [.str ⟨#[d]⟩, y])) ∧ z.cps[i]? = some d ∧ ∀ ys, Sqx K c H q ys → ys[i]? = some y,
    fun i H => ∃ ys, Sqx K c H q ys ∧ (i ≤ z.cps.size ∧ i ≤ ys.length) ∧ (i = z.cps.size ∨ i = ys.length)⟩
structure ZCellsS (zz TI TO i1 i2 : Addr) (h : Heap) (z : Str) (tk0 : Tok) (c : Bool) (q : Addr) (i : Nat) : Prop where
  hz : IsZip h zz TI TO .none
  hi : IsTupOf2 h TI (.ref i1) (.ref i2)
  ho : ∃ x y, IsTupOf2 h TO x y
  h1 : h.IsStrIter i1 (strIterType z) z tk0 i
  h2 : Itx c h i2 q i
theorem strIt_obj {h : Heap} {it : Addr} {ty : String} {z : Str} {t : Tok} {i : Nat} (x : h.IsStrIter it ty z t i) : ∃ o vs, h.get? it = some o ∧ o.data = .fields vs := by
  obtain ⟨o, e, _, d⟩ := x
  exact ⟨o, _, e, d⟩
theorem strIt_to {h h' : Heap} {it : Addr} {ty : String} {z : Str} {t : Tok} {i : Nat} (x : h.IsStrIter it ty z t i) (k : ∀ o, h.get? it = some o → h'.get? it = some o) : h'.IsStrIter it ty z t i := by
  obtain ⟨o, e, r⟩ := x
  exact ⟨o, k o e, r⟩
theorem turn_zipS {P : Program} {w : World} {K : PySem.W.Frag} {elts : List Expr} {kk : Nat} {tpos : Pos} {z : Str} {tk0 : Tok} {c : Bool} {q zz TI TO i1 i2 : Addr} (S : ZipSep2 zz TI TO i1 i2 [i1] [i2, q]) (n2 : q ≠ i2) :
    Turn P w K (.Tuple elts kk tpos) (ItzS K z c q) [zz, TI, TO, i1, i2] zz (fun i h => ZCellsS zz TI TO i1 i2 h z tk0 c q i) where
  mem := List.mem_cons_self
  obj := fun i h st d hd => by
    obtain ⟨x, y, ho⟩ := st.ho
    obtain ⟨o1, vs1, e1, d1⟩ := strIt_obj st.h1
    obtain ⟨o2, vs2, e2, d2⟩ := st.h2.obj
    rcases five hd with e | e | e | e | e <;> subst e
    · exact ⟨_, st.hz, fun v g => nomatch g⟩
    · exact ⟨_, st.hi, fun v g => nomatch g⟩
    · exact ⟨_, ho, fun v g => nomatch g⟩
    · exact ⟨o1, e1, fun v g => by rw [d1] at g; cases g⟩
    · exact ⟨o2, e2, fun v g => by rw [d2] at g; cases g⟩
  keep := fun i h h' st k => by
    obtain ⟨x, y, ho⟩ := st.ho
    exact ⟨k zz (by simp) _ st.hz, k TI (by simp) _ st.hi, ⟨x, y, k TO (by simp) _ ho⟩, strIt_to st.h1 fun o => k i1 (by simp) o, st.h2.to fun o => k i2 (by simp) o⟩
  item := by
    intro X hP hw hK hc i pins s σ H E I hf st hg
    subst hP hw hK
    obtain ⟨x0, y0, hTO⟩ := st.ho
    obtain ⟨lz, ys, y, gy, hy⟩ := hg
    obtain ⟨vs, rw', py⟩ := inv_x I gy
    obtain ⟨v, hv, rv2⟩ := rw'.get hy
    have lv : i < vs.toArray.size := by rw [List.size_toArray]; exact (List.getElem?_eq_some_iff.mp hv).1
    have hd : X.A.in1.handled = none := I.ok.hd hc
    have zl := Heap.lt_size st.hz
    refine wpAny_pyNext_zipD2_item S (Draws.text hd i1 z tk0) (draws_x hd c i2 q n2 vs.toArray) st.hz st.hi hTO st.h1 ⟨st.h2, py⟩ lz lv fun a1 a2 h' tk e1 e2 z' TO' k1 k2 hT hsz hk => ?_
    obtain ⟨d, u, hcx, rfl⟩ := e1
    have eb : a2 = v := Option.some.inj (e2.symm.trans (by simpa using hv))
    subst eb
    refine ⟨_, rfl, wpAny_letOwnedTupleGo_zip (s := { s with heap := h', toks := tk }) z' fun h2 z2 sb => ?_⟩
    have up : ∀ d o, d ∉ [zz, TI, TO, i1, i2] → s.heap.get? d = some o → h2.get? d = some o := fun d o hd e => by
      simp only [List.mem_cons, List.not_mem_nil, or_false, not_or] at hd
      exact (sb.2 d hd.1).trans (hk d o hd.1 hd.2.2.1 hd.2.2.2.1 hd.2.2.2.2 e)
    have hT2 : IsTupOf2 h2 s.heap.objs.size (.str ⟨#[d]⟩ u) a2 := (sb.2 _ (Nat.ne_of_gt zl)).trans hT
    have new : ObjOk X.prog X.w (upd H s.heap.objs.size (.tup [.str ⟨#[d]⟩, y])) h2 s.heap.objs.size (.tup [.str ⟨#[d]⟩, y]) := ⟨by show 2 ≤ sizeLine; decide, [.str ⟨#[d]⟩ u, a2], .cons ⟨_, rfl⟩ (.cons rv2 .nil), ⟨_, hT2, rfl, _, rfl⟩⟩
    have J : Inv X pins σ (upd H s.heap.objs.size (.tup [.str ⟨#[d]⟩, y])) { s with heap := h2, toks := tk } := I.turnedNew (t' := tk) (ch := [zz, TI, TO, i1, i2]) up hf (Nat.le_refl _) new
    refine ⟨.ref s.heap.objs.size, _, J, rfl, ⟨_, d, y, ⟨rfl, I.hok.fresh (Nat.le_refl _), rfl⟩, hcx, fun l g => by rw [inj_x I g gy]; exact hy⟩, ⟨z2, ?_, ⟨.str ⟨#[d]⟩ u, a2, ?_⟩, ?_, ?_⟩, fun d hd => ?_⟩
    · exact (sb.2 _ S.TIz).trans (hk _ _ S.TIz S.TITO S.TIi1 S.TIi2 st.hi)
    · exact (sb.2 _ S.TOz).trans TO'
    · exact strIt_to k1 fun o e => (sb.2 _ S.zi1.symm).trans e
    · exact k2.1.to fun o e => (sb.2 _ S.zi2.symm).trans e
    · have lt : d < s.heap.objs.size := by
        obtain ⟨o1, _, e1, _⟩ := strIt_obj st.h1
        obtain ⟨o2, _, e2, _⟩ := st.h2.obj
        rcases five hd with e | e | e | e | e <;> subst e
        · exact zl
        · exact Heap.lt_size st.hi
        · exact Heap.lt_size hTO
        · exact Heap.lt_size e1
        · exact Heap.lt_size e2
      rw [upd_ne (Nat.ne_of_lt lt)]
      exact (hf d hd).1
  done := by
    intro X hP hw hK hc i pins s σ H E I hf st hg
    subst hP hw hK
    obtain ⟨x0, y0, hTO⟩ := st.ho
    obtain ⟨ys, gy, ⟨l1, l2⟩, hend⟩ := hg
    obtain ⟨vs, rw', py⟩ := inv_x I gy
    have m2 := rw'.length
    have m3 : vs.toArray.size = vs.length := by simp
    have hd : X.A.in1.handled = none := I.ok.hd hc
    refine wpAny_pyNext_zipD2_end S (Draws.text hd i1 z tk0) (draws_x hd c i2 q n2 vs.toArray) st.hz st.hi hTO st.h1 ⟨st.h2, py⟩ l1 (by omega) (by omega) fun h' tk hk => ⟨rfl, I.turnedL (ch := [zz, TI, TO, i1, i2]) (fun d o hd e => ?_) hf⟩
    simp only [List.mem_cons, List.not_mem_nil, or_false, not_or] at hd
    exact hk d o hd.1 hd.2.2.1 hd.2.2.2.1 hd.2.2.2.2 e
  self := fun A i s Q E st h => wpAny_pyIter_zip st.hz h
def iZipS (K : PySem.W.Frag) (ta : TA) : TI := fun σ H R => ta σ H fun vs H1 => ∃ z c q ys, vs = [.str z, .ref q] ∧ Sqx K c H1 q ys ∧ R (ItzS K z c q) H1
theorem pi_zipS {X : Cx} {e e2 : Expr} {ta : TA} {p pos tpos : Pos} {elts : List Expr} {kk : Nat} (hg : Gl X "zip") (hm : X.mg "zip" = none) (ha : PA X [e, e2] ta) (hs : starEach [e, e2] X.env = (false, eval e X.env) :: starEach [e2] X.env := by rfl)
    (hpl : (backTo pos (starEach [e2] X.env)).any (·.1) = false := by rfl) : PI X (.Tuple elts kk tpos) (.Call (.Name "zip" p) [e, e2] [] pos) (iZipS X.K ta) := by
  refine ⟨fun pins s σ H R I h => Call_ (ld_blt I hg hm PyProof.Rows.boot_zip (PyProof.Rows.callWith_type1 (thn (ha.run pos pins s σ H _ I h) fun us s1 ⟨vs, H1, I1, r1, q1⟩ => ?_) hs hpl))⟩
  obtain ⟨z, c, a2, ys, ex, gy, q⟩ := q1
  subst ex
  cases r1 with
  | cons r rr =>
    cases rr with
    | cons r' rr =>
      cases rr
      obtain ⟨t, rfl⟩ := r
      cases r'
      obtain ⟨ws, rw', py⟩ := inv_x I1 gy
      refine zip_begins2 (begins_text z t) (begins_x c a2 ws.toArray) trivial py fun h' hz hTI hTO h1 h2 hsz hk => wpAny_pyIter_zip hz ?_
      have J : Inv X pins σ H1 { s1 with heap := h' } := I1.kept (t' := s1.toks) hk
      refine ⟨s1.heap.objs.size + 4, [s1.heap.objs.size + 4, s1.heap.objs.size + 2, s1.heap.objs.size + 3, s1.heap.objs.size, s1.heap.objs.size + 1], _, _, H1, rfl, J,
        turn_zipS (tk0 := t) (zip_sep2 (N := s1.heap.objs.size) (fp1 := []) (fp2 := [a2]) (fun d hd => nomatch hd) fun d hd => by rw [List.mem_singleton.mp hd]; exact py.lt) (Nat.ne_of_lt (Nat.lt_succ_of_lt py.lt)),
        ⟨hz, hTI, ⟨_, _, hTO⟩, ⟨_, h1, rfl, rfl⟩, obx_it h2⟩, fun d hd => ?_, q⟩
      have hle : s1.heap.objs.size ≤ d := by
        rcases five hd with e | e | e | e | e <;> rw [e]
        · exact Nat.le_add_right _ _
        · exact Nat.le_add_right _ _
        · exact Nat.le_add_right _ _
        · exact Nat.le_refl _
        · exact Nat.le_add_right _ _
      exact I1.fpOk hle (I1.hok.fresh hle)
def iZs (ta : TA3) : TI3 := fun s Q => ta s fun as s1 => match as with
  | [.str z, y] => (match seqT y with
    | some (_, us) => Q (zipT (sgns z) us) s1
    | none => False)
  | _ => False
theorem walkT_zs {M : Mo} {Z : Hp} {z : Str} {c : Bool} {q : Addr} {us : List T} {ws : List V} (n : z.length ≤ sizeLine) (hy : ∀ H, Same Z H → Sqx M.K c H q ws) (r' : RpL M Z us ws) : WalkT M (ItzS M.K z c q) Z (zipT (sgns z) us) := by
  have hz : (sgns z).length = z.cps.size := sgns_len z
  have n : z.cps.size ≤ sizeLine := n
  have hl : (zipT (sgns z) us).length = min z.cps.size ws.length := by rw [zipT_len, hz, r'.len]
  refine ⟨by rw [zipT_len]; omega, fun i H hi l => ?_, fun H l => ⟨ws, hy H l, by omega, by omega⟩, fun i H x H' Z1 hi e l y => ?_⟩
  · rw [hl] at hi
    exact ⟨by omega, ws, ws[i], hy H l, List.getElem?_eq_getElem (by omega)⟩
  · obtain ⟨T, d, y', ⟨rfl, np, rfl⟩, y1, y2⟩ := y
    obtain ⟨u, g1, g2⟩ := r'.get2 (y2 ws (hy _ (e.trans l)))
    have h1 : (sgns z)[i]? = some (.str ⟨#[d]⟩) := by
      unfold sgns
      rw [List.getElem?_map, Array.getElem?_toList, y1]
      rfl
    obtain ⟨g, rr⟩ := gw_pair (M := M) (t := .str ⟨#[d]⟩) l np (.str (by show 1 ≤ sizeLine; decide)) (g2.mono e)
    exact ⟨_, _, zipT_at h1 g1, g, rr⟩
theorem qi_zs {X : Cx} {G : Gh} {e e2 : Expr} {ta : TA3} {p pos tpos : Pos} {elts : List Expr} {kk : Nat} (hK : X.K = G.M.K) (hg : Gl X "zip") (hm : X.mg "zip" = none) (ha : PA X [e, e2] (upA G ta)) (hs : starEach [e, e2] X.env = (false, eval e X.env) :: starEach [e2] X.env := by rfl)
    (hpl : (backTo pos (starEach [e2] X.env)).any (·.1) = false := by rfl) : PI X (.Tuple elts kk tpos) (.Call (.Name "zip" p) [e, e2] [] pos) (upI G (iZs ta)) :=
  PI.imp (pi_zipS hg hm ha hs hpl) fun σ H R ⟨px, Z, s, Q3, fm, h, k⟩ => ⟨px, Z, s, _, fm, h, fun ts s1 ht vs Z1 H1 e1 f1 r1 => by
    rw [hK]
    split at ht
    · rename_i z y
      split at ht
      · rename_i c us ey
        cases r1 with
        | cons r rr =>
          cases rr with
          | cons r' rr =>
            cases rr
            cases r with
            | str hz =>
              obtain ⟨a2, v2, rfl, g2, n2, q2⟩ := seqT_rp ey r'
              exact ⟨z, c, a2, v2, rfl, g2 _ f1.le, k _ s1 ht _ Z1 H1 e1 f1 (walkT_zs hz g2 q2)⟩
      · exact ht.elim
    · exact ht.elim⟩
end G69
namespace G69
open PySem PySem.Spec PyProof.Rows L2
/-! ### d.setdefault(k, e), d one's own -/
def sSetD (i : Nat) (tk te : TE3) : TS3 := fun D s => match s[i]? with
  | some (.ow (.dic _ _)) => tk s fun z s1 => te s1 fun y s2 => (match s2[i]?, keyT z with
    | some (.ow (.dic ks ts)), some k => (ks.length ≤ 1000000) ∧ If3 (hasK ks k) (D.nx s2) (D.nx (s2.set i (.ow (.dic (ks ++ [k]) (ts ++ [y])))))
    | _, _ => False)
  | _ => False
section
variable {X : Cx} {G : Gh} {e ek : Expr} {te tk : TE3} {pos apos cpos p1 : Pos} {x : Str}
theorem q_setD (i : Nat) (hk : PE X ek (up G tk)) (he : PE X e (up G te)) (hN : X.N[i]? = some x := by rfl) (hv : Vis X.env.scope x := by first | exact Or.inl rfl | exact Or.inr (Or.inl rfl) | exact Or.inr (Or.inr rfl)) (hd : (x == ("__debug__" : Str)) = false := by decide)
    (hcd : (x == ("__classdict__" : Str)) = false := by decide) (hb : attributeBase (.Name x p1) "setdefault" X.env (eval (.Name x p1) X.env) = eval (.Name x p1) X.env := by rfl)
    (hfew : ((backTo cpos (starEach [ek, e] X.env)).all (fun x => !x.1) && (backToKw cpos (keywordEach [] X.env)).all (fun x => x.1.isSome) && decide (([ek, e] : List Expr).length + ([] : List Keyword).length + (if ([] : List Keyword).isEmpty then 0 else 1) < 30)) = true := by rfl)
    (hline : (apos.endLine == cpos.line) = true := by rfl) (ht : backTo cpos (starEach [ek, e] X.env) = [(false, eval ek X.env), (false, eval e X.env)] := by rfl)
    (hs : swapsWith (.Call (.Attribute (.Name x p1) "setdefault" apos) [ek, e] [] cpos) none pos.line X.env = pure false := by rfl) :
    PS X (.Expr (.Call (.Attribute (.Name x p1) "setdefault" apos) [ek, e] [] cpos) pos) (upS G (sSetD i tk te)) :=
  PS.imp (ps_expr (pe_dsetd (pv i hN hv hd hcd) hk he ⟨hb, hfew, hline, ht⟩) hs) fun D σ H ⟨px, Z, s, D3, fm, h, k⟩ => by
    unfold sSetD at h
    split at h
    · rename_i ks0 ts0 e0
      obtain ⟨a0, g1, _, vs0, g2, _⟩ := fm.ow i _ e0
      refine ⟨_, g1, a0, rfl, .inl ⟨_, .inl g2⟩, px, Z, s, _, fm, h, fun z s1 hz w Z1 H1 e1 f1 r1 => ⟨px, Z1, s1, _, f1, hz, fun y s2 hy v Z2 H2 e2 f2 r2 => ?_⟩⟩
      split at hy
      · rename_i ks ts kk e3 hkk
        obtain ⟨hsz, hy⟩ := hy
        obtain rfl := key_rel r1 hkk
        obtain ⟨a, h1, h2, vs, h3, h4, h5⟩ := f2.ow i _ e3
        rw [g1] at h1
        cases h1
        have hl : ks.length = vs.length := by rw [h4, h5.len]
        refine ⟨_, kk, h3, rfl, by rw [List.length_zip]; exact Nat.lt_of_le_of_lt (Nat.min_le_left _ _) (Nat.lt_of_le_of_lt hsz (by decide)), fun u hu => ?_, fun hn => ?_⟩
        · have hh : hasK ks kk = true := by rw [← hasK_val hl, hu]; rfl
          rw [hh] at hy
          exact k.nx _ hy σ Z2 H2 (e1.trans e2) f2
        · have hh : hasK ks kk = false := by rw [← hasK_val hl, hn]; rfl
          rw [hh] at hy
          refine k.nx _ hy σ Z2 _ (e1.trans e2) (f2.put e3 g1 ⟨vs ++ [v], upd_same.trans ?_, ?_, h5.app (.cons r2 .nil)⟩)
          · rw [putK_zip hl]
            unfold putKs putXs
            rw [hh]
            rfl
          · rw [List.length_append, List.length_append, h4]
            rfl
      · exact hy.elim
    · exact h.elim
end
end G69
namespace G69
open PySem PySem.Spec PyProof.Rows L2
/-! ### sorted(set(a tuple of integers)) -/
def ISO (w : World) (a : Addr) (m : Int → Bool) (c : Nat) : HO := .ext fun h => SetR w h a m c
section
variable {X : Cx}
theorem iso_new {w : World} {P : Program} {H : Hp} {h : Heap} {a : Addr} {m : Int → Bool} {c : Nat} (R : SetR w h a m c) : ObjOk P w H h a (ISO w a m c) := by
  have ⟨o, _, _, _, q, _⟩ := R
  exact ⟨R, ⟨o, q⟩, fun h1 h2 p k => SetR.at p k⟩
def rSetI (K : PySem.W.Frag) (w : World) : List V → Hp → VK → Prop := fun xs H Q => ∃ (p0 : Addr) (ns : List Int), xs = [.ref p0] ∧ SqT K H p0 (ns.map V.int) ∧ ns.length < 64 ∧ ∀ p c, H p = none → c ≤ ns.length → Q (.ref p) (upd H p (ISO w p (fun y => decide (y ∈ ns)) c))
theorem cr_setI (hc : X.calm = true) : CallR X (.type "set") (rSetI X.K X.w) := by
  intro pins s σ H xs us Q I r h
  obtain ⟨p0, ns, rfl, hq, hb, q⟩ := h
  obtain ⟨u, rfl, ru⟩ := r.one
  obtain rfl : u = Value.ref p0 := ru
  obtain ⟨its, rv, pt, hz⟩ := I.tuple hq
  have hi : IntsAre its.toArray.toList ns := ints_of_vals rv
  refine call_set_tupI ns (I.ok.hd hc) (show s.heap.IsTuple p0 its.toArray from pt) hi (by unfold scanBound; omega) fun h1 tk c new hcx hk => ?_
  exact ⟨.ref _, upd H s.heap.objs.size (ISO X.w s.heap.objs.size (fun y => decide (y ∈ ns)) c), I.laid (t' := tk) hk (Nat.le_refl _) (iso_new new), rfl, q _ c (I.hok.fresh (Nat.le_refl _)) hcx⟩
def rSortI (w : World) : List V → Hp → VK → Prop := fun vs H Q => ∃ (a : Addr) (m : Int → Bool) (c : Nat), vs = [V.ref a] ∧ H a = some (ISO w a m c) ∧ c < 64 ∧
  ∀ (ys : List Int) (p : Addr), ys.Pairwise (· < ·) → (∀ y, y ∈ ys ↔ m y = true) → ys.length = c → H p = none → Q (.ref p) (upd H p (.lst (ys.map V.int)))
theorem vals_ints : ∀ {us : List Value} {ns : List Int}, IntsAre us ns → Vals (ns.map V.int) us
  | _, _, .nil => .nil
  | _, _, .cons k t r => .cons ⟨t, rfl⟩ (vals_ints r)
theorem cr_sortI (hc : X.calm = true) : CallR X (.builtin "sorted") (rSortI X.w) := by
  intro pins s σ H vs us Q I r h
  obtain ⟨a, m, c, rfl, ha, h64, q⟩ := h
  have R : SetR X.w s.heap a m c := (I.hok a _ ha).1
  obtain ⟨u, rfl, ru⟩ := r.one
  obtain rfl : u = Value.ref a := ru
  refine sorted_set R (I.ok.hd hc) h64 fun s1 p out d ys k1 g1 o1 hz hd hT h1 h2 h3 => ?_
  have hlen : (ys.map V.int).length ≤ sizeLine := by rw [List.length_map, h3, sizeLine_eq]; omega
  have hn : H p = none := I.hok.fresh hz
  have J : Inv X pins σ (upd H p (.lst (ys.map V.int))) { s with heap := s1.heap, gens := s1.gens, drawn := s1.drawn, toks := s1.toks } :=
    I.call (ch := []) (Un.laid k1 hz hn) (I.hok.laid k1 hz ⟨hlen, out.toList, d, vals_ints hT, hd⟩) (by rw [g1]; exact I.bare) (fun _ z => nomatch z)
  have e : s1 = { s with heap := s1.heap, gens := s1.gens, drawn := s1.drawn, toks := s1.toks } := by
    cases s1; cases s; cases o1; rfl
  rw [e]
  exact ⟨.ref p, _, J, rfl, q ys p h1 h2 h3 hn⟩
/-- what sorted(set(tuple of integers)) gives -/
def IsOf (ns ys : List Int) : Prop := (ys.Pairwise (· < ·) ∧ ys.length ≤ ns.length) ∧ ∀ y, y ∈ ys ↔ y ∈ ns
@[irreducible] def fSseti : F1 := fun t Q => match t with
  | .tup ts => (match ints? ts with
    | some ns => ns.length < 64 ∧ ∀ ys, IsOf ns ys → Q (.lst (ys.map .int))
    | none => False)
  | _ => False
theorem RpL.ofInts {M : Mo} {Z : Hp} : ∀ {ys : List Int}, RpL M Z (ys.map T.int) (ys.map V.int)
  | [] => .nil
  | y :: ys => .cons (.int y) RpL.ofInts
theorem q_sseti {G : Gh} {e : Expr} {te : TE3} {p p2 q pos : Pos} (hM : G.M = ⟨X.K, X.mg, G.M.D⟩) (hc : X.calm = true) (hg : Gl X "sorted") (hm : X.mg "sorted" = none) (hg2 : Gl X "set") (hm2 : X.mg "set" = none) (he : PE X e (up G te))
    (hs : starEach [e] X.env = (false, eval e X.env) :: starEach [] X.env := by rfl) (hpl : (backTo q (starEach [] X.env)).any (·.1) = false := by rfl)
    (hs2 : starEach [.Call (.Name "set" p2) [e] [] q] X.env = (false, eval (.Call (.Name "set" p2) [e] [] q) X.env) :: starEach [] X.env := by rfl) (hpl2 : (backTo pos (starEach [] X.env)).any (·.1) = false := by rfl) :
    PE X (.Call (.Name "sorted" p) [.Call (.Name "set" p2) [e] [] q] [] pos) (up G (tUn3 fSseti te)) :=
  PE.imp (pe_callB (cr_sortI hc) hg hm boot_sorted (pa_cons (pe_callTy (cr_setI hc) hg2 hm2 boot_set (pa_cons he pa_nil hs) (he := hs) (hpl := hpl)) pa_nil hs2) (he := hs2) (hpl := hpl2)) fun σ H Q ⟨px, Z, s, Q3, fm, h, k⟩ => ⟨px, Z, s, _, fm, h, fun x s1 hf v Z1 H1 e1 f1 r1 => by
    unfold fSseti at hf
    split at hf
    · rename_i ts
      split at hf
      · rename_i ns eN
        rw [ints?_eq eN] at r1
        cases r1 with
        | tup g n r =>
        rename_i a0 ws
        have ew := r.ints
        subst ew
        obtain ⟨hz, hf⟩ := hf
        have hKK : X.K = G.M.K := by rw [hM]
        refine ⟨a0, ns, rfl, .inl (.inl (f1.le _ _ g)), hz, fun a c hn hcx => ⟨a, _, c, rfl, upd_same, by omega, fun ys p3 h1 h3 h4 hn3 => ?_⟩⟩
        have g1 : Gw Z1 H1 (upd Z1 a _) (upd H1 a (ISO X.w a (fun y => decide (y ∈ ns)) c)) := Gw.new f1.le hn (by trivial)
        have f2 := f1.grow g1
        have hys : IsOf ns ys := ⟨⟨h1, h4 ▸ hcx⟩, fun y => by rw [h3 y, decide_eq_true_eq]⟩
        have g3 : Gw (upd Z1 a _) (upd H1 a (ISO X.w a (fun y => decide (y ∈ ns)) c)) (upd (upd Z1 a _) p3 _) (upd (upd H1 a _) p3 (.lst (ys.map V.int))) := Gw.new f2.le hn3 (by trivial)
        refine k _ s1 (hf ys hys) _ _ _ ((e1.trans g1.zz).trans g3.zz) (f2.grow g3) (.lst upd_same ?_ RpL.ofInts)
        rw [List.length_map, h4, sizeLine_eq]
        omega
      · exact hf.elim
    · exact hf.elim⟩
/-! ### [e] * n as a new list -/
def fRepL : F2 := fun x y P => match x, y with
  | .lst xs, .int k => (0 ≤ k ∧ k ≤ 1000 ∧ xs.length * k.toNat ≤ sizeLine) ∧ P (.lst (List.replicate k.toNat xs).flatten)
  | _, _ => False
theorem qf_rep {G : Gh} {a b : Expr} {ta tb : TE3} {pos : Pos} (ha : PE X a (up G ta)) (hb : PE X b (up G tb)) : PE X (.BinOp a .Mult b pos) (upF G (tBin fRepL ta tb)) :=
  PE.imp (pe_op op_rep ha hb) fun σ H Q ⟨px, Z, s, Q3, fm, h, k⟩ => ⟨px, Z, s, _, fm, h, fun x s1 h1 v Z1 H1 e1 f1 r1 => ⟨px, Z1, s1, _, f1, h1, fun y s2 h2 w Z2 H2 e2 f2 r2 => by
    unfold fRepL at h2
    split at h2
    · cases r1 with
      | lst g n r =>
        cases r2
        obtain ⟨⟨g1, g2, g3⟩, g4⟩ := h2
        refine ⟨_, _, _, rfl, rfl, f2.le _ _ (e2 _ _ g), by omega, by omega, by rw [← r.len]; exact g3, fun p np => ?_⟩
        obtain ⟨f3, hp, hno⟩ := f2.mute (o := .lst _) np
        exact k _ s2 g4 p Z2 _ (e1.trans e2) f3 hp hno ⟨_, upd_same, by rw [rep_len]; exact g3, (r.rep _).mono e2⟩
    · exact h2.elim⟩⟩
end
end G69
namespace G69
open PySem PySem.Spec PyProof.Rows L2
abbrev s_is_integer : Stmt := topS 8
abbrev n_is_integer : List Str := ["thing"]
theorem sc_is_integer : FnScope n_is_integer ["thing"] (defScope s_is_integer) := ⟨rfl, rfl, rfl, by decide +kernel, rfl, by decide +kernel, by decide +kernel⟩
def b_is_integer : Sp3 := spOf 1 1 fun E =>
    (sRet (tAndE (tUn3 (fIsi .int) (tVar3 0)) (tNotE (tUn3 (fIsi .bool) (tVar3 0)))))
theorem e_is_integer : ∃ sp : Sp3, sp = b_is_integer := ⟨_, rfl⟩
noncomputable def w_is_integer : Sp3 := Classical.choose e_is_integer
theorem u_is_integer : w_is_integer = b_is_integer := Classical.choose_spec e_is_integer
abbrev s_is_text : Stmt := topS 9
abbrev n_is_text : List Str := ["thing", "sign"]
theorem sc_is_text : FnScope n_is_text ["thing"] (defScope s_is_text) := ⟨rfl, rfl, rfl, by decide +kernel, rfl, by decide +kernel, by decide +kernel⟩
def b_is_text : Sp3 := spOf 2 1 fun E =>
    (sRet (tAndE (tUn3 (fIsi .str) (tVar3 0)) (tN fAll (aCons (tLc3 (iSeq (tVar3 0)) (gN 1) tYes3 (tBin fIn (tVar3 1) (tC3 (.str "abcdefghijklmnopqrstuvwxyz"))) [1]) aNil))))
theorem e_is_text : ∃ sp : Sp3, sp = b_is_text := ⟨_, rfl⟩
noncomputable def w_is_text : Sp3 := Classical.choose e_is_text
theorem u_is_text : w_is_text = b_is_text := Classical.choose_spec e_is_text
abbrev s_is_word : Stmt := topS 10
abbrev n_is_word : List Str := ["thing"]
theorem sc_is_word : FnScope n_is_word ["thing"] (defScope s_is_word) := ⟨rfl, rfl, rfl, by decide +kernel, rfl, by decide +kernel, by decide +kernel⟩
def b_is_word : Sp3 := spOf 1 1 fun E =>
    (sRet (tAndE (tCal w_is_text E (aCons (tVar3 0) aNil)) (tCh fLe fLe (tC3 (.int (1))) (tN fLen (aCons (tVar3 0) aNil)) (tC3 (.int (5))))))
theorem e_is_word : ∃ sp : Sp3, sp = b_is_word := ⟨_, rfl⟩
noncomputable def w_is_word : Sp3 := Classical.choose e_is_word
theorem u_is_word : w_is_word = b_is_word := Classical.choose_spec e_is_word
abbrev s_is_machine_row : Stmt := topS 14
abbrev n_is_machine_row : List Str := ["thing", "many", "goal"]
theorem sc_is_machine_row : FnScope n_is_machine_row ["thing", "many"] (defScope s_is_machine_row) := ⟨rfl, rfl, rfl, by decide +kernel, rfl, by decide +kernel, by decide +kernel⟩
def b_is_machine_row : Sp3 := spOf 3 2 fun E =>
    (sSeq (sIf (tOr3 (tNot3 (tBl (tUn3 (fIsi .tuple) (tVar3 0)))) (tOr3 (tBl (tBin fNe (tN fLen (aCons (tVar3 0) aNil)) (tC3 (.int (2))))) (tNot3 (tBl (tUn3 (fIsi .tuple) (tBin fIx (tVar3 0) (tC3 (.int (1))))))))) (sRet (tC3 (.bl false))) sNx)
    (sSeq (sIf (tOr3 (tAnd3 (tBl (tBin fNotN (tBin fIx (tVar3 0) (tC3 (.int (0)))) (tC3 .non))) (tNot3 (tBl (tCal w_is_word E (aCons (tBin fIx (tVar3 0) (tC3 (.int (0)))) aNil))))) (tBl (tBin fNe (tN fLen (aCons (tBin fIx (tVar3 0) (tC3 (.int (1)))) aNil)) (tN fLen (aCons (tC3 (.str "abcdefghijklmnopqrstuvwxyz")) aNil))))) (sRet (tC3 (.bl false))) sNx)
    (sRet (tN fAll (aCons (tLc3 (iSeq (tBin fIx (tVar3 0) (tC3 (.int (1))))) (gN 2) tYes3 (tAndE (tCal w_is_integer E03 (aCons (tVar3 2) aNil)) (tCh fLe fLt (tC3 (.int (0))) (tVar3 2) (tVar3 1))) [2]) aNil)))))
theorem e_is_machine_row : ∃ sp : Sp3, sp = b_is_machine_row := ⟨_, rfl⟩
noncomputable def w_is_machine_row : Sp3 := Classical.choose e_is_machine_row
theorem u_is_machine_row : w_is_machine_row = b_is_machine_row := Classical.choose_spec e_is_machine_row
abbrev s_Machine__init_ : Stmt := inClass (topS 15) 0
abbrev n_Machine__init_ : List Str := ["self", "rows", "at", "one"]
theorem sc_Machine__init_ : FnScope n_Machine__init_ ["self", "rows"] (defScope s_Machine__init_) := ⟨rfl, rfl, rfl, by decide +kernel, rfl, by decide +kernel, by decide +kernel⟩
def b_Machine__init_ : Sp3 := spI 3 1 3 fun E =>
    (sSeq (sIf (tOr3 (tNot3 (tBl (tUn3 (fIsi .tuple) (tVar3 1)))) (tBl (tBin fEqU (tVar3 1) (tN mkTup aNil)))) (sRz 7 E (tC3 (.int (0)))) sNx)
    (sSeq (tFor3 (iEn (aCons (tVar3 1) aNil)) (gT 2 (gsC (gN 2) (gsC (gN 3) gsN))) (sIf (tOr3 (tBl (tBin fEq (tVar3 2) (tC3 (.int (20000))))) (tNot3 (tBl (tCal w_is_machine_row E (aCons (tVar3 3) (aCons (tN fLen (aCons (tVar3 1) aNil)) aNil)))))) (sRz 7 E (tVar3 2)) sNx))
    (sFs 3 0 (tVar3 1))))
theorem e_Machine__init_ : ∃ sp : Sp3, sp = b_Machine__init_ := ⟨_, rfl⟩
noncomputable def w_Machine__init_ : Sp3 := Classical.choose e_Machine__init_
theorem u_Machine__init_ : w_Machine__init_ = b_Machine__init_ := Classical.choose_spec e_Machine__init_
abbrev s_Machine_rows : Stmt := inClass (topS 15) 1
abbrev n_Machine_rows : List Str := ["self"]
theorem sc_Machine_rows : FnScope n_Machine_rows ["self"] (defScope s_Machine_rows) := ⟨rfl, rfl, rfl, by decide +kernel, rfl, by decide +kernel, by decide +kernel⟩
def b_Machine_rows : Sp3 := spOf 1 1 fun E =>
    (sRet (tFd 3 0 (tVar3 0)))
theorem e_Machine_rows : ∃ sp : Sp3, sp = b_Machine_rows := ⟨_, rfl⟩
noncomputable def w_Machine_rows : Sp3 := Classical.choose e_Machine_rows
theorem u_Machine_rows : w_Machine_rows = b_Machine_rows := Classical.choose_spec e_Machine_rows
abbrev s_Machine__len_ : Stmt := inClass (topS 15) 3
abbrev n_Machine__len_ : List Str := ["self"]
theorem sc_Machine__len_ : FnScope n_Machine__len_ ["self"] (defScope s_Machine__len_) := ⟨rfl, rfl, rfl, by decide +kernel, rfl, by decide +kernel, by decide +kernel⟩
def b_Machine__len_ : Sp3 := spOf 1 1 fun E =>
    (sRet (tN fLen (aCons (tFd 3 0 (tVar3 0)) aNil)))
theorem e_Machine__len_ : ∃ sp : Sp3, sp = b_Machine__len_ := ⟨_, rfl⟩
noncomputable def w_Machine__len_ : Sp3 := Classical.choose e_Machine__len_
theorem u_Machine__len_ : w_Machine__len_ = b_Machine__len_ := Classical.choose_spec e_Machine__len_
abbrev s_goals_of : Stmt := topS 17
abbrev n_goals_of : List Str := ["rows", "found", "answer", "targets", "goals", "letter", "goal"]
theorem sc_goals_of : FnScope n_goals_of ["rows"] (defScope s_goals_of) := ⟨rfl, rfl, rfl, by decide +kernel, rfl, by decide +kernel, by decide +kernel⟩
def b_goals_of : Sp3 := spOf 7 1 fun E =>
    (sSeq (sOwn 1 (tN mkLst aNil))
    (sSeq (tFor3 (iSeq (tVar3 0)) (gT 2 (gsC (gN 2) (gsC (gN 3) gsN))) (sSeq (sOwn 4 (tC3 (.dic [] [])))
    (sSeq (tFor3 (iZs (aCons (tC3 (.str "abcdefghijklmnopqrstuvwxyz")) (aCons (tVar3 3) aNil))) (gT 2 (gsC (gN 5) (gsC (gN 6) gsN))) (sSetD 4 (tVar3 6) (tVar3 5)))
    (sApp 1 (tVar3 4)))))
    (sRet (tVar3 1))))
theorem e_goals_of : ∃ sp : Sp3, sp = b_goals_of := ⟨_, rfl⟩
noncomputable def w_goals_of : Sp3 := Classical.choose e_goals_of
theorem u_goals_of : w_goals_of = b_goals_of := Classical.choose_spec e_goals_of
abbrev s_edges_of : Stmt := topS 18
abbrev n_edges_of : List Str := ["rows", "found", "answer", "targets", "goals", "goal", "letter"]
theorem sc_edges_of : FnScope n_edges_of ["rows"] (defScope s_edges_of) := ⟨rfl, rfl, rfl, by decide +kernel, rfl, by decide +kernel, by decide +kernel⟩
def b_edges_of : Sp3 := spOf 7 1 fun E =>
    (sSeq (sOwn 1 (tN mkLst aNil))
    (sSeq (tFor3 (iZx (aCons (tVar3 0) (aCons (tCal w_goals_of E (aCons (tVar3 0) aNil)) aNil))) (gT 2 (gsC (gT 2 (gsC (gN 2) (gsC (gN 3) gsN))) (gsC (gN 4) gsN))) (sApp 1 (tLcI 4 (gT 2 (gsC (gN 5) (gsC (gN 6) gsN))) tYes3 (tN mkTup (aCons (tN fIntS (aCons (tBin fNe (tBin fIx (tBin fIx (tVar3 0) (tVar3 5)) (tC3 (.int (0)))) (tVar3 2)) aNil)) (aCons (tVar3 5) (aCons (tVar3 6) aNil)))) [5, 6])))
    (sRet (tVar3 1))))
theorem e_edges_of : ∃ sp : Sp3, sp = b_edges_of := ⟨_, rfl⟩
noncomputable def w_edges_of : Sp3 := Classical.choose e_edges_of
theorem u_edges_of : w_edges_of = b_edges_of := Classical.choose_spec e_edges_of
abbrev s_shows_rate : Stmt := topS 19
abbrev n_shows_rate : List Str := ["machine", "p", "q", "thing", "worth", "edges", "change", "goal", "letter"]
theorem sc_shows_rate : FnScope n_shows_rate ["machine", "p", "q", "thing"] (defScope s_shows_rate) := ⟨rfl, rfl, rfl, by decide +kernel, rfl, by decide +kernel, by decide +kernel⟩
def b_shows_rate : Sp3 := spOf 9 4 fun E =>
    (sSeq (sIf (tOr3 (tNot3 (tBl (tCal w_is_integer E (aCons (tVar3 1) aNil)))) (tOr3 (tNot3 (tBl (tCal w_is_integer E (aCons (tVar3 2) aNil)))) (tOr3 (tBl (tBin fLt (tVar3 1) (tC3 (.int (0))))) (tBl (tBin fLt (tVar3 2) (tC3 (.int (1)))))))) (sRz0 9 E) sNx)
    (sSeq (sIf (tOr3 (tNot3 (tBl (tUn3 (fIsi .tuple) (tVar3 3)))) (tOr3 (tBl (tBin fNe (tN fLen (aCons (tVar3 3) aNil)) (tN (fLenI 3 w_Machine__len_) (aCons (tVar3 0) aNil)))) (tNot3 (tBl (tN fAll (aCons (tLc3 (iSeq (tVar3 3)) (gN 4) tYes3 (tCal w_is_integer E03 (aCons (tVar3 4) aNil)) [4]) aNil)))))) (sRet (tC3 (.bl false))) sNx)
    (sSeq (tFor3 (iZx (aCons (tVar3 3) (aCons (tCal w_edges_of E (aCons (tPr 3 w_Machine_rows (tVar3 0)) aNil)) aNil))) (gT 2 (gsC (gN 4) (gsC (gN 5) gsN))) (sIf (tBl (tN fAny (aCons (tLc3 (iSeq (tVar3 5)) (gT 3 (gsC (gN 6) (gsC (gN 7) (gsC (gN 8) gsN)))) tYes3 (tBin fGt (tBin fSub (tBin fMulX (tVar3 2) (tVar3 6)) (tVar3 1)) (tBin fSub (tVar3 4) (tBin fIx (tVar3 3) (tVar3 7)))) [6, 7, 8]) aNil))) (sRet (tC3 (.bl false))) sNx))
    (sRet (tC3 (.bl true))))))
theorem e_shows_rate : ∃ sp : Sp3, sp = b_shows_rate := ⟨_, rfl⟩
noncomputable def w_shows_rate : Sp3 := Classical.choose e_shows_rate
theorem u_shows_rate : w_shows_rate = b_shows_rate := Classical.choose_spec e_shows_rate
abbrev s_L_pick : Stmt := topS 23
abbrev n_L_pick : List Str := ["_law_draw", "_law_some"]
theorem sc_L_pick : FnScope n_L_pick ["_law_draw", "_law_some"] (defScope s_L_pick) := ⟨rfl, rfl, rfl, by decide +kernel, rfl, by decide +kernel, by decide +kernel⟩
def b_L_pick : Sp3 := spOf 2 2 fun E =>
    (sRet (tBin fIx (tVar3 1) (tCal w_L_take E (aCons (tVar3 0) (aCons (tN fLen (aCons (tVar3 1) aNil)) aNil)))))
theorem e_L_pick : ∃ sp : Sp3, sp = b_L_pick := ⟨_, rfl⟩
noncomputable def w_L_pick : Sp3 := Classical.choose e_L_pick
theorem u_L_pick : w_L_pick = b_L_pick := Classical.choose_spec e_L_pick
abbrev s_L_caught : Stmt := topS 24
abbrev n_L_caught : List Str := ["_law_work", "_law_caught_here", "error"]
theorem sc_L_caught : FnScope n_L_caught ["_law_work"] (defScope s_L_caught) := ⟨rfl, rfl, rfl, by decide +kernel, rfl, by decide +kernel, by decide +kernel⟩
def bb_L_caught (W : Sp3) : XK3 → TS3 := fun E =>
    (sSeq (sAsg (tC3 .non) (gN 1))
    (sSeq (sTryK [2, 7, 9] (bExp (xAct W)) 0 2 1)
    (sRet (tVar3 1))))
def b_L_caught (W : Sp3) : Sp3 := spOf 3 1 (bb_L_caught W)
theorem e_L_caught : ∃ f : Sp3 → Sp3, f = b_L_caught := ⟨_, rfl⟩
noncomputable def w_L_caught : Sp3 → Sp3 := Classical.choose e_L_caught
theorem u_L_caught : w_L_caught = b_L_caught := Classical.choose_spec e_L_caught
abbrev s_L_machine_rows : Stmt := topS 25
abbrev n_L_machine_rows : List Str := ["_law_draw", "_law_many", "_law_found", "_law_at", "_law_answer", "_law_base", "_law_targets", "_law_k"]
theorem sc_L_machine_rows : FnScope n_L_machine_rows ["_law_draw", "_law_many"] (defScope s_L_machine_rows) := ⟨rfl, rfl, rfl, by decide +kernel, rfl, by decide +kernel, by decide +kernel⟩
def b_L_machine_rows : Sp3 := spOf 8 2 fun E =>
    (sSeq (sOwn 2 (tN mkLst aNil))
    (sSeq (tFor3 (iR1 (aCons (tVar3 1) aNil)) (gN 3) (sSeq (sAsg (tCal w_L_pick E (aCons (tVar3 0) (aCons (tN mkLst (aCons (tC3 .non) (aCons (tC3 (.str "a")) (aCons (tC3 (.str "b")) (aCons (tC3 (.str "ab")) (aCons (tC3 (.str "abcde")) aNil)))))) aNil))) (gN 4))
    (sSeq (sAsg (tCal w_L_take E (aCons (tVar3 0) (aCons (tVar3 1) aNil))) (gN 5))
    (sSeq (sAsg (tLc3 (iR1 (aCons (tC3 (.int (26))) aNil)) (gN 7) tYes3 (tCal w_L_pick E03 (aCons (tVar3 0) (aCons (tN mkLst (aCons (tVar3 5) (aCons (tVar3 5) (aCons (tBin fMod (tBin fAdd (tVar3 3) (tC3 (.int (1)))) (tVar3 1)) (aCons (tCal w_L_take E03 (aCons (tVar3 0) (aCons (tVar3 1) aNil))) aNil))))) aNil))) [7]) (gN 6))
    (sApp 2 (tN mkTup (aCons (tVar3 4) (aCons (tN fTuple (aCons (tVar3 6) aNil)) aNil))))))))
    (sRet (tN fTuple (aCons (tVar3 2) aNil)))))
theorem e_L_machine_rows : ∃ sp : Sp3, sp = b_L_machine_rows := ⟨_, rfl⟩
noncomputable def w_L_machine_rows : Sp3 := Classical.choose e_L_machine_rows
theorem u_L_machine_rows : w_L_machine_rows = b_L_machine_rows := Classical.choose_spec e_L_machine_rows
abbrev s_L_due : Stmt := topS 26
abbrev n_L_due : List Str := ["_law_rows", "_law_upper", "_law_lower", "_law_matter", "_law_one", "_law_at", "_law_goal", "_law_shift"]
theorem sc_L_due : FnScope n_L_due ["_law_rows", "_law_upper", "_law_lower", "_law_matter"] (defScope s_L_due) := ⟨rfl, rfl, rfl, by decide +kernel, rfl, by decide +kernel, by decide +kernel⟩
def b_L_due : Sp3 := spOf 8 4 fun E =>
    (sSeq (sIf (tOr3 (tNot3 (tBl (tUn3 (fIsi .tuple) (tVar3 3)))) (tBl (tBin fNe (tN fLen (aCons (tVar3 3) aNil)) (tN fLen (aCons (tVar3 0) aNil))))) (sRet (tC3 (.bl false))) sNx)
    (sSeq (sIf (tBl (tBin fNeU (tLc3 (iSeq (tVar3 3)) (gN 4) (tOr3 (tNot3 (tBl (tUn3 (fIsi .int) (tVar3 4)))) (tBl (tUn3 (fIsi .bool) (tVar3 4)))) (tVar3 4) [4]) (tN mkLst aNil))) (sRet (tC3 (.bl false))) sNx)
    (sSeq (tFor3 (iR1 (aCons (tN fLen (aCons (tVar3 0) aNil)) aNil)) (gN 5) (tFor3 (iSeq (tBin fIx (tBin fIx (tVar3 0) (tVar3 5)) (tC3 (.int (1))))) (gN 6) (sSeq (sAsg (tN fIntS (aCons (tBin fNe (tBin fIx (tBin fIx (tVar3 0) (tVar3 5)) (tC3 (.int (0)))) (tBin fIx (tBin fIx (tVar3 0) (tVar3 6)) (tC3 (.int (0))))) aNil)) (gN 7))
    (sIf (tBl (tBin fLt (tBin fSub (tBin fIx (tVar3 3) (tVar3 5)) (tBin fIx (tVar3 3) (tVar3 6))) (tBin fSub (tBin fMulX (tVar3 2) (tVar3 7)) (tVar3 1)))) (sRet (tC3 (.bl false))) sNx))))
    (sRet (tC3 (.bl true))))))
theorem e_L_due : ∃ sp : Sp3, sp = b_L_due := ⟨_, rfl⟩
noncomputable def w_L_due : Sp3 := Classical.choose e_L_due
theorem u_L_due : w_L_due = b_L_due := Classical.choose_spec e_L_due
abbrev s_L_worths : Stmt := topS 27
abbrev n_L_worths : List Str := ["_law_rows", "_law_upper", "_law_lower", "_law_found", "_law_turn", "_law_at", "_law_goal", "_law_shift"]
theorem sc_L_worths : FnScope n_L_worths ["_law_rows", "_law_upper", "_law_lower"] (defScope s_L_worths) := ⟨rfl, rfl, rfl, by decide +kernel, rfl, by decide +kernel, by decide +kernel⟩
def b_L_worths : Sp3 := spOf 8 3 fun E =>
    (sSeq (sOwn 3 (tBin fRepL (tN mkLst (aCons (tC3 (.int (0))) aNil)) (tN fLen (aCons (tVar3 0) aNil))))
    (sSeq (tFor3 (iR1 (aCons (tBin fAdd (tN fLen (aCons (tVar3 0) aNil)) (tC3 (.int (1)))) aNil)) (gN 4) (tFor3 (iR1 (aCons (tN fLen (aCons (tVar3 0) aNil)) aNil)) (gN 5) (tFor3 (iSeq (tUn3 fSseti (tBin fIx (tBin fIx (tVar3 0) (tVar3 5)) (tC3 (.int (1)))))) (gN 6) (sSeq (sAsg (tN fIntS (aCons (tBin fNe (tBin fIx (tBin fIx (tVar3 0) (tVar3 5)) (tC3 (.int (0)))) (tBin fIx (tBin fIx (tVar3 0) (tVar3 6)) (tC3 (.int (0))))) aNil)) (gN 7))
    (sSetAt 3 (tN fMax (aCons (tIxO 3 (tVar3 5)) (aCons (tBin fAdd (tBin fSub (tBin fMulX (tVar3 2) (tVar3 7)) (tVar3 1)) (tIxO 3 (tVar3 6))) aNil))) (tVar3 5))))))
    (sRet (tN fTuple (aCons (tVar3 3) aNil)))))
theorem e_L_worths : ∃ sp : Sp3, sp = b_L_worths := ⟨_, rfl⟩
noncomputable def w_L_worths : Sp3 := Classical.choose e_L_worths
theorem u_L_worths : w_L_worths = b_L_worths := Classical.choose_spec e_L_worths
abbrev s_L_bent : Stmt := topS 28
abbrev n_L_bent : List Str := ["_law_draw", "_law_worths_here", "_law_at", "_law_put", "_law_some"]
theorem sc_L_bent : FnScope n_L_bent ["_law_draw", "_law_worths_here"] (defScope s_L_bent) := ⟨rfl, rfl, rfl, by decide +kernel, rfl, by decide +kernel, by decide +kernel⟩
def b_L_bent : Sp3 := spOf 5 2 fun E =>
    (sSeq (sAsg (tCal w_L_take E (aCons (tVar3 0) (aCons (tN fLen (aCons (tVar3 1) aNil)) aNil))) (gN 2))
    (sSeq (sAsg (tN mkLst (aCons (tBin fAdd (tBin fIx (tVar3 1) (tVar3 2)) (tC3 (.int (1)))) (aCons (tBin fSub (tBin fIx (tVar3 1) (tVar3 2)) (tC3 (.int (1)))) (aCons (tC3 (.bl true)) (aCons (tC3 .non) (aCons (tN fStr (aCons (tBin fIx (tVar3 1) (tVar3 2)) aNil)) (aCons (tN mkTup (aCons (tBin fIx (tVar3 1) (tVar3 2)) aNil)) (aCons (tBin fPow (tC3 (.int (10))) (tC3 (.int (40)))) (aCons (tUn3 fNeg (tBin fPow (tC3 (.int (10))) (tC3 (.int (40))))) aNil))))))))) (gN 3))
    (sSeq (sAsg (tN mkLst (aCons (tBin fAdd (tBin fAdd (tSl3 (tVar3 1) oNo (oSo (tVar3 2))) (tN mkTup (aCons (tCal w_L_pick E (aCons (tVar3 0) (aCons (tVar3 3) aNil))) aNil))) (tSl3 (tVar3 1) (oSo (tBin fAdd (tVar3 2) (tC3 (.int (1))))) oNo)) (aCons (tN fList (aCons (tVar3 1) aNil)) (aCons (tBin fAdd (tVar3 1) (tN mkTup (aCons (tC3 (.int (0))) aNil))) (aCons (tSl3 (tVar3 1) oNo (oSo (tUn3 fNeg (tC3 (.int (1)))))) aNil))))) (gN 4))
    (sRet (tCal w_L_pick E (aCons (tVar3 0) (aCons (tBin fAdd (tBin fAdd (tVar3 4) (tBin fMulX (tSl3 (tVar3 4) oNo (oSo (tC3 (.int (1))))) (tC3 (.int (4))))) (tN mkLst (aCons (tC3 .non) (aCons (tC3 (.int (5))) (aCons (tN mkTup aNil) (aCons (tC3 (.dic [] [])) (aCons (tC3 (.str "")) (aCons (tUn3 fRevT (tVar3 1)) aNil)))))))) aNil)))))))
theorem e_L_bent : ∃ sp : Sp3, sp = b_L_bent := ⟨_, rfl⟩
noncomputable def w_L_bent : Sp3 := Classical.choose e_L_bent
theorem u_L_bent : w_L_bent = b_L_bent := Classical.choose_spec e_L_bent
abbrev s_law : Stmt := topS 29
abbrev n_law : List Str := ["_law_script", "_law_draw", "_law_turn", "_law_rows", "_law_engine", "_law_k", "_law_lower", "_law_upper", "_law_worths_here", "_law_matter", "_law_one", "_law_said", "_law_bad", "_law_is_wrong", "_law_other"]
theorem sc_law : FnScope n_law ["_law_script"] (defScope s_law) := ⟨rfl, rfl, rfl, by decide +kernel, rfl, by decide +kernel, by decide +kernel⟩
def w_law : TS3 :=
    (sSeq (tFor3 (iR1 (aCons (tC3 (.int (3))) aNil)) (gN 2) (sSeq (sAsg (tCal w_L_machine_rows E03 (aCons (tVar3 1) (aCons (tBin fAdd (tC3 (.int (1))) (tCal w_L_take E03 (aCons (tVar3 1) (aCons (tC3 (.int (5))) aNil)))) aNil))) (gN 3))
    (sSeq (sAsg (tCal w_Machine__init_ E03 (aCons (tVar3 3) aNil)) (gN 4))
    (tFor3 (iR1 (aCons (tC3 (.int (5))) aNil)) (gN 5) (sSeq (sAsg (tBin fAdd (tC3 (.int (1))) (tCal w_L_take E03 (aCons (tVar3 1) (aCons (tC3 (.int (5))) aNil)))) (gN 6))
    (sSeq (sAsg (tCal w_L_take E03 (aCons (tVar3 1) (aCons (tBin fAdd (tVar3 6) (tC3 (.int (2)))) aNil))) (gN 7))
    (sSeq (sAsg (tCal w_L_worths E03 (aCons (tVar3 3) (aCons (tVar3 7) (aCons (tVar3 6) aNil)))) (gN 8))
    (sSeq (tFor3 (iSeq (tN mkLst (aCons (tVar3 8) (aCons (tCal w_L_bent E03 (aCons (tVar3 1) (aCons (tVar3 8) aNil))) (aCons (tN fTuple (aCons (tLc3 (iSeq (tVar3 3)) (gN 10) tYes3 (tCal w_L_take E03 (aCons (tVar3 1) (aCons (tC3 (.int (4))) aNil))) [10]) aNil)) aNil))))) (gN 9) (sSeq (sOwn 11 (tN mkLst (aCons (tCal w_shows_rate E03 (aCons (tVar3 4) (aCons (tVar3 7) (aCons (tVar3 6) (aCons (tVar3 9) aNil))))) aNil)))
    (sSeq (sApp 11 (tCalKP 4 [3, 2, 1, 0] w_shows_rate E03 (aCons (tVar3 9) (aCons (tVar3 6) (aCons (tVar3 7) (aCons (tVar3 4) aNil))))))
    (sIf (tBorT 11 (tBl (tBin fNe (tN fRep (aCons (tVar3 11) aNil)) (tN fRep (aCons (tBin fMulX (tN mkLst (aCons (tCal w_L_due E03 (aCons (tVar3 3) (aCons (tVar3 7) (aCons (tVar3 6) (aCons (tVar3 9) aNil))))) aNil)) (tC3 (.int (2)))) aNil))))) (sRet (tC3 (.bl false))) sNx))))
    (sSeq (sAsg (tCal w_L_pick E03 (aCons (tVar3 1) (aCons (tN mkLst (aCons (tC3 .non) (aCons (tC3 (.bl true)) (aCons (tC3 (.str "1")) (aCons (tN mkTup (aCons (tC3 (.int (1))) aNil)) (aCons (tN mkLst aNil) (aCons (tBin fPow (tC3 (.int (10))) (tC3 (.int (20)))) (aCons (tUn3 fNeg (tC3 (.int (1)))) (aCons (tC3 (.int (0))) (aCons (tUn3 fNeg (tBin fPow (tC3 (.int (10))) (tC3 (.int (20))))) aNil)))))))))) aNil))) (gN 12))
    (sSeq (sAsg (tLamR w_L_caught (fun E => (tCal w_shows_rate E (aCons (tVar3 4) (aCons (tVar3 12) (aCons (tVar3 6) (aCons (tVar3 8) aNil))))))) (gN 10))
    (sSeq (sAsg (tOrE (tNotE (tUn3 (fIsi .int) (tVar3 12))) (tUn3 (fIsi .bool) (tVar3 12))) (gN 13))
    (sSeq (sAsg (tLamR w_L_caught (fun E => (tCal w_shows_rate E (aCons (tVar3 4) (aCons (tVar3 7) (aCons (tVar3 12) (aCons (tVar3 8) aNil))))))) (gN 14))
    (sSeq (sIf (tOr3 (tBl (tBin fNe (tUn3 (fIsE [0, 2, 7, 9] 9) (tVar3 10)) (tOrE (tVar3 13) (tBin fLt (tVar3 12) (tC3 (.int (0))))))) (tBl (tUn3 (fIsE [0, 2, 7, 9] 2) (tVar3 10)))) (sRet (tC3 (.bl false))) sNx)
    (sIf (tOr3 (tBl (tBin fNe (tUn3 (fIsE [0, 2, 7, 9] 9) (tVar3 14)) (tOrE (tVar3 13) (tBin fLt (tVar3 12) (tC3 (.int (1))))))) (tBl (tUn3 (fIsE [0, 2, 7, 9] 2) (tVar3 14)))) (sRet (tC3 (.bl false))) sNx))))))))))))))
    (sRet (tC3 (.bl true))))
end G69
namespace G69
open PySem PySem.Spec PyProof.Rows L2
structure All (P : Program) (K : PySem.W.Frag) (mg : Str → Option Value) : Prop where
  B : Bt mg
  k_LETTERS : ∃ tk, mg "LETTERS" = some (.str "abcdefghijklmnopqrstuvwxyz" tk)
  k_LONGEST : ∃ tk, mg "LONGEST" = some (.int 5 tk)
  k_MOST_ROWS : ∃ tk, mg "MOST_ROWS" = some (.int 20000 tk)
  d_is_integer : Def3 K mg "is_integer" s_is_integer ["thing"]
  d_is_text : Def3 K mg "is_text" s_is_text ["thing"]
  d_is_word : Def3 K mg "is_word" s_is_word ["thing"]
  d_is_machine_row : Def3 K mg "is_machine_row" s_is_machine_row ["thing", "many"]
  i_Machine__init_ : ∃ (C f : Addr) (fd : FuncData), mg (cn 3) = some (.ref C) ∧ Mk K C f ∧ FunD K "__init__" "Machine.__init__" (defArgs s_Machine__init_) (defBody s_Machine__init_) (defScope s_Machine__init_) [] [] f fd ∧ Binds K fd ["self", "rows"] [] ∧ KBn K fd ["self", "rows"] 1 ["rows"] (fun us ws => us ++ ws) (fun vs zs => vs ++ zs)
  p_Machine_rows : ∃ (C p g : Addr) (fd : FuncData), mg (cn 3) = some (.ref C) ∧ PropOf K C "rows" p g ∧ Fun K "rows" "Machine.rows" s_Machine_rows g fd ∧ Binds K fd ["self"] []
  m_Machine__len_ : ∃ (C f : Addr) (fd : FuncData), mg (cn 3) = some (.ref C) ∧ Meth K C "__len__" f ∧ Fun K "__len__" "Machine.__len__" s_Machine__len_ f fd ∧ Binds K fd ["self"] [] ∧ PySem.W.fnIn K f = true
  d_goals_of : Def3 K mg "goals_of" s_goals_of ["rows"]
  d_edges_of : Def3 K mg "edges_of" s_edges_of ["rows"]
  d_shows_rate : Def3 K mg "shows_rate" s_shows_rate ["machine", "p", "q", "thing"]
  d_L_pick : Def3 K mg "_law_pick" s_L_pick ["_law_draw", "_law_some"]
  d_L_caught : Def3 K mg "_law_caught" s_L_caught ["_law_work"]
  d_L_machine_rows : Def3 K mg "_law_machine_rows" s_L_machine_rows ["_law_draw", "_law_many"]
  d_L_due : Def3 K mg "_law_due" s_L_due ["_law_rows", "_law_upper", "_law_lower", "_law_matter"]
  d_L_worths : Def3 K mg "_law_worths" s_L_worths ["_law_rows", "_law_upper", "_law_lower"]
  d_L_bent : Def3 K mg "_law_bent" s_L_bent ["_law_draw", "_law_worths_here"]
  cf3 : Cf K mg 3
  oc3 : Oc K mg 3
  nf3 : Nf K mg 3
  b_repr : mg "repr" = none
  x_SpellError : Xc0 K mg 0
  x_BadText : Xc0 K mg 2
  x_BadMachine : XcI P K mg 7 "row"
  xf_BadMachine : Xf3 K mg 7
  x_BadNumber : Xc0 K mg 9
  ex_SpellError : Ex3 K mg [2, 7, 9] 0
  ei_BadText : Ei3 K mg [0, 2, 7, 9] 2
  ei_BadNumber : Ei3 K mg [0, 2, 7, 9] 9
  d_L_begin : Def3 K mg "_law_begin" sBegin ["_law_script"]
  d_L_take : Def3 K mg "_law_take" sTake ["_law_draw", "_law_size"]
end G69
namespace G69
open PySem PySem.Spec PyProof.Rows L2

section
variable {P : Program} {w : World} {K : PySem.W.Frag} {mg : Str → Option Value} {base : Heap}
theorem c_L_take (A : All P K mg) : Cal3 P w K mg base "_law_take" ["_law_draw", "_law_size"] 1 w_L_take := by
  obtain ⟨f, fd, F, g, b, kb⟩ := A.d_L_take.ex
  exact ⟨f, fd, (FnOk.of0 (ok_take F A.B.int A.B.divmod)).imp lift_take, g, F.kp, b, kb, fun_lk F⟩
end
end G69
namespace G69
open PySem PySem.Spec PyProof.Rows L2
section
variable {P : Program} {w : World} {K : PySem.W.Frag} {mg : Str → Option Value} {base : Heap}
theorem Def3.hand {x : Str} {st : Stmt} {ps : List Str} {k : Nat} {sp : Sp} (D : Def3 K mg x st ps) (h : ∀ f fd, Fun K x x st f fd → FnOk P w K mg base CX0 k f fd ps sp) : Cal P w K mg base x ps k sp := by
  obtain ⟨f, fd, F, g, b, _⟩ := D.ex
  exact ⟨f, fd, h f fd F, g, F.kp, b⟩
end
end G69
namespace G69
open PySem PySem.Spec PyProof.Rows L2
section
variable {P : Program} {w : World} {K : PySem.W.Frag} {mg : Str → Option Value} {base : Heap}
theorem c_is_integer (A : All P K mg) : Cal3 P w K mg base "is_integer" ["thing"] 1 w_is_integer := by rw [u_is_integer]; unfold b_is_integer; exact cal3 A.d_is_integer sc_is_integer fun f cdv Ar outer s H E G E3 hr hMq L => (have hM := hMq.1; have hq := hMq.2; have hK := hKof hM;
   (qs_one (q_ret (qe_and (q_isi (k := .int) hM (by rfl) A.B.isinst (q_var 0) (pe_bltn (v := .ty "int") (by rfl) A.B.int (by decide +kernel) rfl)) (qe_one (qe_not (q_isi (k := .bool) hM (by rfl) A.B.isinst (q_var 0) (pe_bltn (v := .ty "bool") (by rfl) A.B.bool (by decide +kernel) rfl))))))))
end
section
variable {P : Program} {w : World} {K : PySem.W.Frag} {mg : Str → Option Value} {base : Heap}
theorem c_is_text (A : All P K mg) : Cal3 P w K mg base "is_text" ["thing"] 1 w_is_text := by rw [u_is_text]; unfold b_is_text; exact cal3 A.d_is_text sc_is_text fun f cdv Ar outer s H E G E3 hr hMq L => (have hM := hMq.1; have hq := hMq.2; have hK := hKof hM;
   (qs_one (q_ret (qe_and (q_isi (k := .str) hM (by rfl) A.B.isinst (q_var 0) (pe_bltn (v := .ty "str") (by rfl) A.B.str (by decide +kernel) rfl)) (qe_one (q_bi (l_all hK rfl) L_all (by rfl) A.B.all (by decide +kernel) (qa_cons (froz (qf_lc (own := [("sign", 1)]) (by decide) rfl sc_is_text.nd (qi_seq hK (q_var 0)) (blkOk_by (own := [("sign", 1)]) (N := n_is_text) (sc := defScope s_is_text) (by decide +kernel)) (fun _ _ _ _ _ => (qg_name (i := 1) sc_is_text.nd rfl (.inl rfl))) (fun _ _ _ _ _ => qts_nil) (fun _ _ _ _ _ => (q_cmp (l_in hK) L_in (q_var 1) (q_gs (z := "abcdefghijklmnopqrstuvwxyz") rfl (A.k_LETTERS).choose_spec ⟨_, rfl⟩) (by rfl))))) qa_nil)))))))
end
section
variable {P : Program} {w : World} {K : PySem.W.Frag} {mg : Str → Option Value} {base : Heap}
theorem c_is_word (A : All P K mg) : Cal3 P w K mg base "is_word" ["thing"] 2 w_is_word := by rw [u_is_word]; unfold b_is_word; exact cal3 A.d_is_word sc_is_word fun f cdv Ar outer s H E G E3 hr hMq L => (have hM := hMq.1; have hq := hMq.2; have hK := hKof hM;
   (qs_one (q_ret (qe_and (q_calX (c_is_text A) hM hr (by decide) (by rfl) L (qa_cons (q_var 0) qa_nil)) (qe_one (q_ch op_le op_le L_i2 L_i2 q_int (q_bi (l_len hK) L_len (by rfl) A.B.len (by decide +kernel) (qa_cons (q_var 0) qa_nil)) (q_gi (i := 5) rfl (A.k_LONGEST).choose_spec ⟨_, rfl⟩)))))))
end
section
variable {P : Program} {w : World} {K : PySem.W.Frag} {mg : Str → Option Value} {base : Heap}
theorem c_is_machine_row (A : All P K mg) : Cal3 P w K mg base "is_machine_row" ["thing", "many"] 3 w_is_machine_row := by rw [u_is_machine_row]; unfold b_is_machine_row; exact cal3 A.d_is_machine_row sc_is_machine_row fun f cdv Ar outer s H E G E3 hr hMq L => (have hM := hMq.1; have hq := hMq.2; have hK := hKof hM;
   (qs_cons (q_if (PW.pt (q_or (q_not (q_val (q_isi (k := .tuple) hM (by rfl) A.B.isinst (q_var 0) (pe_bltn (v := .ty "tuple") (by rfl) A.B.tuple (by decide +kernel) rfl)))) (q_or (q_tcmp (l_ne hK hr.units) L_ne (q_bi (l_len hK) L_len (by rfl) A.B.len (by decide +kernel) (qa_cons (q_var 0) qa_nil)) q_int (nomark _)) (q_or1 (q_not (q_val (q_isi (k := .tuple) hM (by rfl) A.B.isinst (q_ix (l_ix hK) L_ix (q_var 0) q_int (fun _ _ => rfl)) (pe_bltn (v := .ty "tuple") (by rfl) A.B.tuple (by decide +kernel) rfl)))))))) (qs_one (q_ret q_bl)) qs_nil)
    (qs_cons (q_if (PW.pt (q_or (PW.pt (q_and (q_tcmp op_notN L_notN (q_ix (l_ix hK) L_ix (q_var 0) q_int (fun _ _ => rfl)) q_non (nomark _)) (q_and1 (q_not (q_val (q_calX (c_is_word A) hM hr (by decide) (by rfl) L (qa_cons (q_ix (l_ix hK) L_ix (q_var 0) q_int (fun _ _ => rfl)) qa_nil))))))) (q_or1 (q_tcmp (l_ne hK hr.units) L_ne (q_bi (l_len hK) L_len (by rfl) A.B.len (by decide +kernel) (qa_cons (q_ix (l_ix hK) L_ix (q_var 0) q_int (fun _ _ => rfl)) qa_nil)) (q_bi (l_len hK) L_len (by rfl) A.B.len (by decide +kernel) (qa_cons (q_gs (z := "abcdefghijklmnopqrstuvwxyz") rfl (A.k_LETTERS).choose_spec ⟨_, rfl⟩) qa_nil)) (nomark _))))) (qs_one (q_ret q_bl)) qs_nil)
    (qs_one (q_ret (q_bi (l_all hK rfl) L_all (by rfl) A.B.all (by decide +kernel) (qa_cons (froz (qf_lc (own := [("goal", 2)]) (by decide) rfl sc_is_machine_row.nd (qi_seq hK (q_ix (l_ix hK) L_ix (q_var 0) q_int (fun _ _ => rfl))) (blkOk_by (own := [("goal", 2)]) (N := n_is_machine_row) (sc := defScope s_is_machine_row) (by decide +kernel)) (fun _ _ _ _ _ => (qg_name (i := 2) sc_is_machine_row.nd rfl (.inl rfl))) (fun _ _ _ _ _ => qts_nil) (fun _ _ _ _ _ => (qe_and (q_calX (c_is_integer A) hM hr (by decide) (by rfl) lets0 (qa_cons (q_var 2) qa_nil)) (qe_one (q_ch op_le op_lt L_i2 L_i2 q_int (q_var 2) (q_var 1))))))) qa_nil)))))))
end
section
variable {P : Program} {w : World} {K : PySem.W.Frag} {mg : Str → Option Value} {base : Heap}
theorem o_Machine__init_ (A : All P K mg) {f : Addr} {fd : FuncData} (F : FunD K "__init__" "Machine.__init__" (defArgs s_Machine__init_) (defBody s_Machine__init_) (defScope s_Machine__init_) [] [] f fd) : FnOk P w K mg base (L2.CX P w) 4 f fd ["self", "rows"] (liftI K mg 3 w_Machine__init_) := by
  rw [u_Machine__init_]; unfold b_Machine__init_
  exact fnI F sc_Machine__init_ fun cdv Ar outer s H E G E3 hr hM L => (have hK := hKof hM;
   (qs_cons (q_if (PW.pt (q_or (q_not (q_val (q_isi (k := .tuple) hM (by rfl) A.B.isinst (q_var 1) (pe_bltn (v := .ty "tuple") (by rfl) A.B.tuple (by decide +kernel) rfl)))) (q_or1 (q_tcmp (l_eqU hK hr.units) L_eqU (q_var 1) (q_tup qa_nil) (nomark _))))) (qs_one (q_rz hM A.x_BadMachine rfl rfl hr (by decide) rfl (by rfl) L q_int)) qs_nil)
    (qs_cons (q_for (passes_of rfl) rfl (qi_en hK (by rfl) A.B.enumerate (qa_cons (q_var 1) qa_nil)) (qg_tup hK rfl (qgs_cons (qg_name (i := 2) sc_Machine__init_.nd rfl (.inl rfl)) (qgs_cons (qg_name (i := 3) sc_Machine__init_.nd rfl (.inl rfl)) qgs_nil))) (qs_one (q_if (PW.pt (q_or (q_tcmp (l_eq hK hr.units) L_eq (q_var 2) (q_gi (i := 20000) rfl (A.k_MOST_ROWS).choose_spec ⟨_, rfl⟩) (nomark _)) (q_or1 (q_not (q_val (q_calX (c_is_machine_row A) hM hr (by decide) (by rfl) L (qa_cons (q_var 3) (qa_cons (q_bi (l_len hK) L_len (by rfl) A.B.len (by decide +kernel) (qa_cons (q_var 1) qa_nil)) qa_nil)))))))) (qs_one (q_rz hM A.x_BadMachine rfl rfl hr (by decide) rfl (by rfl) L (q_var 2))) qs_nil)))
    (qs_one (q_fs (c := 3) (j := 0) hM A.cf3 rfl (by decide) (by decide) (q_var 1))))))
theorem c_Machine__init_ (A : All P K mg) : Mk3 P w K mg base 3 ["self", "rows"] 4 w_Machine__init_ := by
  obtain ⟨C, f, fd, hm, mk, F, kb, kk⟩ := A.i_Machine__init_
  exact ⟨C, f, fd, hm, mk, o_Machine__init_ A F, kb⟩
theorem c_Machine_K (A : All P K mg) : MkK3 P w K mg base 3 ["self", "rows"] ["rows"] 4 w_Machine__init_ := by
  obtain ⟨C, f, fd, hm, mk, F, kb, kk⟩ := A.i_Machine__init_
  exact ⟨C, f, fd, _, hm, mk, o_Machine__init_ A F, kk⟩
end
section
variable {P : Program} {w : World} {K : PySem.W.Frag} {mg : Str → Option Value} {base : Heap}
theorem c_Machine_rows (A : All P K mg) : Pr3 P w K mg base 3 "rows" 1 w_Machine_rows := by
  rw [u_Machine_rows]; unfold b_Machine_rows
  obtain ⟨C, p, g, fd, hm, hp, F, hb⟩ := A.p_Machine_rows
  exact ⟨A.cf3, C, p, g, fd, hm, hp, fn3 F sc_Machine_rows fun cdv Ar outer s H E G E3 hr hMq L => (have hM := hMq.1; have hq := hMq.2; have hK := hKof hM;
   (qs_one (q_ret (q_fd (c := 3) (j := 0) hM A.cf3 (q_var 0) rfl (by decide))))), hb⟩
end
section
variable {P : Program} {w : World} {K : PySem.W.Frag} {mg : Str → Option Value} {base : Heap}
theorem c_Machine__len_ (A : All P K mg) : Mt3 P w K mg base 3 "__len__" ["self"] 1 w_Machine__len_ := by
  rw [u_Machine__len_]; unfold b_Machine__len_
  obtain ⟨C, f, fd, hm, mt, F, hb, hf⟩ := A.m_Machine__len_
  exact ⟨A.cf3, by decide, C, f, fd, hm, fn3 F sc_Machine__len_ fun cdv Ar outer s H E G E3 hr hMq L => (have hM := hMq.1; have hq := hMq.2; have hK := hKof hM;
   (qs_one (q_ret (q_bi (l_len hK) L_len (by rfl) A.B.len (by decide +kernel) (qa_cons (q_fd (c := 3) (j := 0) hM A.cf3 (q_var 0) rfl (by decide)) qa_nil))))), mt, hb, hf⟩
end
end G69
namespace G69
open PySem PySem.Spec PyProof.Rows L2
section
variable {P : Program} {w : World} {K : PySem.W.Frag} {mg : Str → Option Value} {base : Heap}
theorem c_goals_of (A : All P K mg) : Cal3 P w K mg base "goals_of" ["rows"] 1 w_goals_of := by rw [u_goals_of]; unfold b_goals_of; exact cal3 A.d_goals_of sc_goals_of fun f cdv Ar outer s H E G E3 hr hMq L => (have hM := hMq.1; have hq := hMq.2; have hK := hKof hM;
   (qs_cons (q_own (i := 1) sc_goals_of.nd rfl (.inl rfl) (qf_lst qa_nil))
    (qs_cons (q_for (passes_of rfl) rfl (qi_seq hK (q_var 0)) (qg_tup hK rfl (qgs_cons (qg_name (i := 2) sc_goals_of.nd rfl (.inl rfl)) (qgs_cons (qg_name (i := 3) sc_goals_of.nd rfl (.inl rfl)) qgs_nil))) (qs_cons (q_own (i := 4) sc_goals_of.nd rfl (.inl rfl) qf_d0)
    (qs_cons (q_for (passes_of rfl) rfl (qi_zs hK (by rfl) A.B.zip (qa_cons (q_gs (z := "abcdefghijklmnopqrstuvwxyz") rfl (A.k_LETTERS).choose_spec ⟨_, rfl⟩) (qa_cons (q_var 3) qa_nil))) (qg_tup hK rfl (qgs_cons (qg_name (i := 5) sc_goals_of.nd rfl (.inl rfl)) (qgs_cons (qg_name (i := 6) sc_goals_of.nd rfl (.inl rfl)) qgs_nil))) (qs_one (q_setD 4 (q_var 6) (q_var 5))))
    (qs_one (q_app 1 (q_var 4))))))
    (qs_one (q_ret (q_var 1))))))
end
section
variable {P : Program} {w : World} {K : PySem.W.Frag} {mg : Str → Option Value} {base : Heap}
theorem c_edges_of (A : All P K mg) : Cal3 P w K mg base "edges_of" ["rows"] 2 w_edges_of := by rw [u_edges_of]; unfold b_edges_of; exact cal3 A.d_edges_of sc_edges_of fun f cdv Ar outer s H E G E3 hr hMq L => (have hM := hMq.1; have hq := hMq.2; have hK := hKof hM;
   (qs_cons (q_own (i := 1) sc_edges_of.nd rfl (.inl rfl) (qf_lst qa_nil))
    (qs_cons (q_for (passes_of rfl) rfl (qi_zx hK (by rfl) A.B.zip (qa_cons (q_var 0) (qa_cons (q_calX (c_goals_of A) hM hr (by decide) (by rfl) L (qa_cons (q_var 0) qa_nil)) qa_nil))) (qg_tup hK rfl (qgs_cons (qg_tup hK rfl (qgs_cons (qg_name (i := 2) sc_edges_of.nd rfl (.inr rfl)) (qgs_cons (qg_name (i := 3) sc_edges_of.nd rfl (.inl rfl)) qgs_nil))) (qgs_cons (qg_name (i := 4) sc_edges_of.nd rfl (.inl rfl)) qgs_nil))) (qs_one (q_app 1 (froz (qf_lcI (i := 4) (own := [("goal", 5), ("letter", 6)]) (by decide) rfl sc_edges_of.nd (blkOk_by (own := [("goal", 5), ("letter", 6)]) (N := n_edges_of) (sc := defScope s_edges_of) (by decide +kernel)) (fun _ _ _ _ _ _ => (qg_tup hK rfl (qgs_cons (qg_name (i := 5) sc_edges_of.nd rfl (.inl rfl)) (qgs_cons (qg_name (i := 6) sc_edges_of.nd rfl (.inl rfl)) qgs_nil)))) (fun _ _ _ _ _ _ => qts_nil) (fun _ _ _ _ _ _ => (q_tup (qa_cons (q_ty l_ints L_ints (by rfl) A.B.int (by decide +kernel) (qa_cons (q_cmp (l_ne hK hr.units) L_ne (q_ix (l_ix hK) L_ix (q_ix (l_ix hK) L_ix (q_var 0) (q_var 5) (fun _ _ => rfl)) q_int (fun _ _ => rfl)) (q_var 2) (nomark _)) qa_nil)) (qa_cons (q_var 5) (qa_cons (q_var 6) qa_nil))))))))))
    (qs_one (q_ret (q_var 1))))))
end
section
variable {P : Program} {w : World} {K : PySem.W.Frag} {mg : Str → Option Value} {base : Heap}
theorem c_shows_rate (A : All P K mg) : Cal3 P w K mg base "shows_rate" ["machine", "p", "q", "thing"] 3 w_shows_rate := by rw [u_shows_rate]; unfold b_shows_rate; exact cal3 A.d_shows_rate sc_shows_rate fun f cdv Ar outer s H E G E3 hr hMq L => (have hM := hMq.1; have hq := hMq.2; have hK := hKof hM;
   (qs_cons (q_if (PW.pt (q_or (q_not (q_val (q_calX (c_is_integer A) hM hr (by decide) (by rfl) L (qa_cons (q_var 1) qa_nil)))) (q_or (q_not (q_val (q_calX (c_is_integer A) hM hr (by decide) (by rfl) L (qa_cons (q_var 2) qa_nil)))) (q_or (q_tcmp op_lt L_i2 (q_var 1) q_int (nomark _)) (q_or1 (q_tcmp op_lt L_i2 (q_var 2) q_int (nomark _))))))) (qs_one (q_rz0 hM A.x_BadNumber rfl rfl rfl (by rfl) L)) qs_nil)
    (qs_cons (q_if (PW.pt (q_or (q_not (q_val (q_isi (k := .tuple) hM (by rfl) A.B.isinst (q_var 3) (pe_bltn (v := .ty "tuple") (by rfl) A.B.tuple (by decide +kernel) rfl)))) (q_or (q_tcmp (l_ne hK hr.units) L_ne (q_bi (l_len hK) L_len (by rfl) A.B.len (by decide +kernel) (qa_cons (q_var 3) qa_nil)) (q_lenI hM (c_Machine__len_ A) hr (by decide) (by rfl) A.B.len (qa_cons (q_var 0) qa_nil)) (nomark _)) (q_or1 (q_not (q_val (q_bi (l_all hK rfl) L_all (by rfl) A.B.all (by decide +kernel) (qa_cons (froz (qf_lc (own := [("worth", 4)]) (by decide) rfl sc_shows_rate.nd (qi_seq hK (q_var 3)) (blkOk_by (own := [("worth", 4)]) (N := n_shows_rate) (sc := defScope s_shows_rate) (by decide +kernel)) (fun _ _ _ _ _ => (qg_name (i := 4) sc_shows_rate.nd rfl (.inl rfl))) (fun _ _ _ _ _ => qts_nil) (fun _ _ _ _ _ => (q_calX (c_is_integer A) hM hr (by decide) (by rfl) lets0 (qa_cons (q_var 4) qa_nil))))) qa_nil)))))))) (qs_one (q_ret q_bl)) qs_nil)
    (qs_cons (q_for (passes_of rfl) rfl (qi_zx hK (by rfl) A.B.zip (qa_cons (q_var 3) (qa_cons (q_calX (c_edges_of A) hM hr (by decide) (by rfl) L (qa_cons (q_pr hM (c_Machine_rows A) hr (by decide) (q_var 0)) qa_nil)) qa_nil))) (qg_tup hK rfl (qgs_cons (qg_name (i := 4) sc_shows_rate.nd rfl (.inr rfl)) (qgs_cons (qg_name (i := 5) sc_shows_rate.nd rfl (.inl rfl)) qgs_nil))) (qs_one (q_if (q_val (q_bi (l_any hK rfl) L_any (by rfl) A.B.any (by decide +kernel) (qa_cons (froz (qf_lc (own := [("change", 6), ("goal", 7), ("letter", 8)]) (by decide) rfl sc_shows_rate.nd (qi_seq hK (q_var 5)) (blkOk_by (own := [("change", 6), ("goal", 7), ("letter", 8)]) (N := n_shows_rate) (sc := defScope s_shows_rate) (by decide +kernel)) (fun _ _ _ _ _ => (qg_tup hK rfl (qgs_cons (qg_name (i := 6) sc_shows_rate.nd rfl (.inl rfl)) (qgs_cons (qg_name (i := 7) sc_shows_rate.nd rfl (.inl rfl)) (qgs_cons (qg_name (i := 8) sc_shows_rate.nd rfl (.inl rfl)) qgs_nil))))) (fun _ _ _ _ _ => qts_nil) (fun _ _ _ _ _ => (q_cmp op_gt L_i2 (q_op op_sub L_sub (q_op l_mulX L_mulX (q_var 2) (q_var 6)) (q_var 1)) (q_op op_sub L_sub (q_var 4) (q_ix (l_ix hK) L_ix (q_var 3) (q_var 7) (fun _ _ => rfl))) (nomark _))))) qa_nil))) (qs_one (q_ret q_bl)) qs_nil)))
    (qs_one (q_ret q_bl))))))
end
end G69
namespace G69
open PySem PySem.Spec PyProof.Rows L2
section
variable {P : Program} {w : World} {K : PySem.W.Frag} {mg : Str → Option Value} {base : Heap}
theorem c_L_pick (A : All P K mg) : Cal3 P w K mg base "_law_pick" ["_law_draw", "_law_some"] 2 w_L_pick := by rw [u_L_pick]; unfold b_L_pick; exact cal3 A.d_L_pick sc_L_pick fun f cdv Ar outer s H E G E3 hr hMq L => (have hM := hMq.1; have hq := hMq.2; have hK := hKof hM;
   (qs_one (q_ret (q_ix (l_ix hK) L_ix (q_var 1) (q_calX (c_L_take A) hM hr (by decide) (by rfl) L (qa_cons (q_var 0) (qa_cons (q_bi (l_len hK) L_len (by rfl) A.B.len (by decide +kernel) (qa_cons (q_var 1) qa_nil)) qa_nil))) (fun _ _ => rfl)))))
end
section
variable {P : Program} {w : World} {K : PySem.W.Frag} {mg : Str → Option Value} {base : Heap}
theorem c_L_caught (A : All P K mg) : LamD P w K mg base "_law_caught" "_law_work" 0 w_L_caught := by
  obtain ⟨g, fd, F, hm, b, _⟩ := A.d_L_caught.ex
  exact ⟨s_L_caught, g, fd, n_L_caught, bb_L_caught, F, hm, b, sc_L_caught, rfl, (Or.inl rfl), fun W => by rw [u_L_caught]; rfl, fun cdv Ar outer s H E G E3 W hr hM L act => (have hK := hKof hM;
   (qs_cons (q_set (i := 1) sc_L_caught.nd rfl (.inl rfl) q_non)
    (qs_cons (q_tryK (i := 2) (j := 1) hM rfl rfl sc_L_caught.nd (fun W pn xe tk => (qb_exp (act _ _ _ _ _ tk))) rfl A.ex_SpellError (by rfl) (by decide) rfl rfl (fun a oe pn => pss_one (ps_set (i := 1) sc_L_caught.nd rfl (.inl rfl) (pv 2))))
    (qs_one (q_ret (q_var 1))))))⟩
end
section
variable {P : Program} {w : World} {K : PySem.W.Frag} {mg : Str → Option Value} {base : Heap}
theorem c_L_machine_rows (A : All P K mg) : Cal3 P w K mg base "_law_machine_rows" ["_law_draw", "_law_many"] 3 w_L_machine_rows := by rw [u_L_machine_rows]; unfold b_L_machine_rows; exact cal3 A.d_L_machine_rows sc_L_machine_rows fun f cdv Ar outer s H E G E3 hr hMq L => (have hM := hMq.1; have hq := hMq.2; have hK := hKof hM;
   (qs_cons (q_own (i := 2) sc_L_machine_rows.nd rfl (.inl rfl) (qf_lst qa_nil))
    (qs_cons (q_for (passes_of rfl) rfl (qi_r1 (by rfl) A.B.range (qa_cons (q_var 1) qa_nil)) (qg_name (i := 3) sc_L_machine_rows.nd rfl (.inr rfl)) (qs_cons (q_set (i := 4) sc_L_machine_rows.nd rfl (.inl rfl) (q_calX (c_L_pick A) hM hr (by decide) (by rfl) L (qa_cons (q_var 0) (qa_cons (froz (qf_lst (qa_cons q_non (qa_cons q_str (qa_cons q_str (qa_cons q_str (qa_cons q_str qa_nil))))))) qa_nil))))
    (qs_cons (q_set (i := 5) sc_L_machine_rows.nd rfl (.inr rfl) (q_calX (c_L_take A) hM hr (by decide) (by rfl) L (qa_cons (q_var 0) (qa_cons (q_var 1) qa_nil))))
    (qs_cons (q_setLc (i := 6) (own := [("_law_k", 7)]) (by decide) rfl sc_L_machine_rows.nd rfl rfl (sw_true rfl rfl rfl (by decide +kernel)) (qi_r1 (by rfl) A.B.range (qa_cons q_int qa_nil)) (blkOk_by (own := [("_law_k", 7)]) (N := n_L_machine_rows) (sc := defScope s_L_machine_rows) (by decide +kernel)) (fun _ _ _ _ _ => (qg_name (i := 7) sc_L_machine_rows.nd rfl (.inl rfl))) (fun _ _ _ _ _ => qts_nil) (fun _ _ _ _ _ => (q_calX (c_L_pick A) hM hr (by decide) (by rfl) lets0 (qa_cons (q_var 0) (qa_cons (froz (qf_lst (qa_cons (q_var 5) (qa_cons (q_var 5) (qa_cons (q_op op_mod L_mod (q_op (l_add hK) L_add (q_var 3) q_int) (q_var 1)) (qa_cons (q_calX (c_L_take A) hM hr (by decide) (by rfl) lets0 (qa_cons (q_var 0) (qa_cons (q_var 1) qa_nil))) qa_nil)))))) qa_nil)))))
    (qs_one (q_app 2 (q_tup (qa_cons (q_var 4) (qa_cons (q_ty (l_tuple hK) L_tuple (by rfl) A.B.tuple (by decide +kernel) (qa_cons (q_var 6) qa_nil)) qa_nil)))))))))
    (qs_one (q_ret (q_ty (l_tuple hK) L_tuple (by rfl) A.B.tuple (by decide +kernel) (qa_cons (q_var 2) qa_nil)))))))
end
section
variable {P : Program} {w : World} {K : PySem.W.Frag} {mg : Str → Option Value} {base : Heap}
theorem c_L_due (A : All P K mg) : Cal3 P w K mg base "_law_due" ["_law_rows", "_law_upper", "_law_lower", "_law_matter"] 1 w_L_due := by rw [u_L_due]; unfold b_L_due; exact cal3 A.d_L_due sc_L_due fun f cdv Ar outer s H E G E3 hr hMq L => (have hM := hMq.1; have hq := hMq.2; have hK := hKof hM;
   (qs_cons (q_if (PW.pt (q_or (q_not (q_val (q_isi (k := .tuple) hM (by rfl) A.B.isinst (q_var 3) (pe_bltn (v := .ty "tuple") (by rfl) A.B.tuple (by decide +kernel) rfl)))) (q_or1 (q_tcmp (l_ne hK hr.units) L_ne (q_bi (l_len hK) L_len (by rfl) A.B.len (by decide +kernel) (qa_cons (q_var 3) qa_nil)) (q_bi (l_len hK) L_len (by rfl) A.B.len (by decide +kernel) (qa_cons (q_var 0) qa_nil)) (nomark _))))) (qs_one (q_ret q_bl)) qs_nil)
    (qs_cons (q_if (q_tcmp (l_neU hK hr.units) L_neU (froz (qf_lc (own := [("_law_one", 4)]) (by decide) rfl sc_L_due.nd (qi_seq hK (q_var 3)) (blkOk_by (own := [("_law_one", 4)]) (N := n_L_due) (sc := defScope s_L_due) (by decide +kernel)) (fun _ _ _ _ _ => (qg_name (i := 4) sc_L_due.nd rfl (.inl rfl))) (fun _ _ _ _ _ => (qts_one (PW.pt (q_or (q_not (q_val (q_isi (k := .int) hM (by rfl) A.B.isinst (q_var 4) (pe_bltn (v := .ty "int") (by rfl) A.B.int (by decide +kernel) rfl)))) (q_or1 (q_val (q_isi (k := .bool) hM (by rfl) A.B.isinst (q_var 4) (pe_bltn (v := .ty "bool") (by rfl) A.B.bool (by decide +kernel) rfl)))))))) (fun _ _ _ _ _ => (q_var 4)))) (froz (qf_lst qa_nil)) (nomark _)) (qs_one (q_ret q_bl)) qs_nil)
    (qs_cons (q_for (passes_of rfl) rfl (qi_r1 (by rfl) A.B.range (qa_cons (q_bi (l_len hK) L_len (by rfl) A.B.len (by decide +kernel) (qa_cons (q_var 0) qa_nil)) qa_nil)) (qg_name (i := 5) sc_L_due.nd rfl (.inl rfl)) (qs_one (q_for (passes_of rfl) rfl (qi_seq hK (q_ix (l_ix hK) L_ix (q_ix (l_ix hK) L_ix (q_var 0) (q_var 5) (fun _ _ => rfl)) q_int (fun _ _ => rfl))) (qg_name (i := 6) sc_L_due.nd rfl (.inl rfl)) (qs_cons (q_set (i := 7) sc_L_due.nd rfl (.inl rfl) (q_ty l_ints L_ints (by rfl) A.B.int (by decide +kernel) (qa_cons (q_cmp (l_ne hK hr.units) L_ne (q_ix (l_ix hK) L_ix (q_ix (l_ix hK) L_ix (q_var 0) (q_var 5) (fun _ _ => rfl)) q_int (fun _ _ => rfl)) (q_ix (l_ix hK) L_ix (q_ix (l_ix hK) L_ix (q_var 0) (q_var 6) (fun _ _ => rfl)) q_int (fun _ _ => rfl)) (nomark _)) qa_nil)))
    (qs_one (q_if (q_tcmp op_lt L_i2 (q_op op_sub L_sub (q_ix (l_ix hK) L_ix (q_var 3) (q_var 5) (fun _ _ => rfl)) (q_ix (l_ix hK) L_ix (q_var 3) (q_var 6) (fun _ _ => rfl))) (q_op op_sub L_sub (q_op l_mulX L_mulX (q_var 2) (q_var 7)) (q_var 1)) (nomark _)) (qs_one (q_ret q_bl)) qs_nil))))))
    (qs_one (q_ret q_bl))))))
end
section
variable {P : Program} {w : World} {K : PySem.W.Frag} {mg : Str → Option Value} {base : Heap}
theorem c_L_worths (A : All P K mg) : Cal3 P w K mg base "_law_worths" ["_law_rows", "_law_upper", "_law_lower"] 1 w_L_worths := by rw [u_L_worths]; unfold b_L_worths; exact cal3 A.d_L_worths sc_L_worths fun f cdv Ar outer s H E G E3 hr hMq L => (have hM := hMq.1; have hq := hMq.2; have hK := hKof hM;
   (qs_cons (q_own (i := 3) sc_L_worths.nd rfl (.inl rfl) (qf_rep (froz (qf_lst (qa_cons q_int qa_nil))) (q_bi (l_len hK) L_len (by rfl) A.B.len (by decide +kernel) (qa_cons (q_var 0) qa_nil))))
    (qs_cons (q_for (passes_of rfl) rfl (qi_r1 (by rfl) A.B.range (qa_cons (q_op (l_add hK) L_add (q_bi (l_len hK) L_len (by rfl) A.B.len (by decide +kernel) (qa_cons (q_var 0) qa_nil)) q_int) qa_nil)) (qg_name (i := 4) sc_L_worths.nd rfl (.inl rfl)) (qs_one (q_for (passes_of rfl) rfl (qi_r1 (by rfl) A.B.range (qa_cons (q_bi (l_len hK) L_len (by rfl) A.B.len (by decide +kernel) (qa_cons (q_var 0) qa_nil)) qa_nil)) (qg_name (i := 5) sc_L_worths.nd rfl (.inl rfl)) (qs_one (q_for (passes_of rfl) rfl (qi_seq hK (q_sseti hM rfl (by rfl) A.B.sorted (by rfl) A.B.set (q_ix (l_ix hK) L_ix (q_ix (l_ix hK) L_ix (q_var 0) (q_var 5) (fun _ _ => rfl)) q_int (fun _ _ => rfl)))) (qg_name (i := 6) sc_L_worths.nd rfl (.inl rfl)) (qs_cons (q_set (i := 7) sc_L_worths.nd rfl (.inl rfl) (q_ty l_ints L_ints (by rfl) A.B.int (by decide +kernel) (qa_cons (q_cmp (l_ne hK hr.units) L_ne (q_ix (l_ix hK) L_ix (q_ix (l_ix hK) L_ix (q_var 0) (q_var 5) (fun _ _ => rfl)) q_int (fun _ _ => rfl)) (q_ix (l_ix hK) L_ix (q_ix (l_ix hK) L_ix (q_var 0) (q_var 6) (fun _ _ => rfl)) q_int (fun _ _ => rfl)) (nomark _)) qa_nil)))
    (qs_one (q_setAt 3 (q_bi (l_max hK rfl) L_max (by rfl) A.B.max (by decide +kernel) (qa_cons (q_ixO 3 hK (q_var 5) (fun _ _ => rfl)) (qa_cons (q_op (l_add hK) L_add (q_op op_sub L_sub (q_op l_mulX L_mulX (q_var 2) (q_var 7)) (q_var 1)) (q_ixO 3 hK (q_var 6) (fun _ _ => rfl))) qa_nil))) (q_var 5)))))))))
    (qs_one (q_ret (q_ty (l_tuple hK) L_tuple (by rfl) A.B.tuple (by decide +kernel) (qa_cons (q_var 3) qa_nil)))))))
end
section
variable {P : Program} {w : World} {K : PySem.W.Frag} {mg : Str → Option Value} {base : Heap}
theorem c_L_bent (A : All P K mg) : Cal3 P w K mg base "_law_bent" ["_law_draw", "_law_worths_here"] 3 w_L_bent := by rw [u_L_bent]; unfold b_L_bent; exact cal3 A.d_L_bent sc_L_bent fun f cdv Ar outer s H E G E3 hr hMq L => (have hM := hMq.1; have hq := hMq.2; have hK := hKof hM;
   (qs_cons (q_set (i := 2) sc_L_bent.nd rfl (.inl rfl) (q_calX (c_L_take A) hM hr (by decide) (by rfl) L (qa_cons (q_var 0) (qa_cons (q_bi (l_len hK) L_len (by rfl) A.B.len (by decide +kernel) (qa_cons (q_var 1) qa_nil)) qa_nil))))
    (qs_cons (q_set (i := 3) sc_L_bent.nd rfl (.inl rfl) (froz (qf_lst (qa_cons (q_op (l_add hK) L_add (q_ix (l_ix hK) L_ix (q_var 1) (q_var 2) (fun _ _ => rfl)) q_int) (qa_cons (q_op op_sub L_sub (q_ix (l_ix hK) L_ix (q_var 1) (q_var 2) (fun _ _ => rfl)) q_int) (qa_cons q_bl (qa_cons q_non (qa_cons (q_ty call_str_int L_str (by rfl) A.B.str (by decide +kernel) (qa_cons (q_ix (l_ix hK) L_ix (q_var 1) (q_var 2) (fun _ _ => rfl)) qa_nil)) (qa_cons (q_tup (qa_cons (q_ix (l_ix hK) L_ix (q_var 1) (q_var 2) (fun _ _ => rfl)) qa_nil)) (qa_cons (q_op op_pow L_pow q_int q_int) (qa_cons (q_un un_neg L_neg (q_op op_pow L_pow q_int q_int)) qa_nil)))))))))))
    (qs_cons (q_set (i := 4) sc_L_bent.nd rfl (.inl rfl) (froz (qf_lst (qa_cons (q_op (l_add hK) L_add (q_op (l_add hK) L_add (q_sl hK (q_var 1) qo_none (qo_some (q_var 2))) (q_tup (qa_cons (q_calX (c_L_pick A) hM hr (by decide) (by rfl) L (qa_cons (q_var 0) (qa_cons (q_var 3) qa_nil))) qa_nil))) (q_sl hK (q_var 1) (qo_some (q_op (l_add hK) L_add (q_var 2) q_int)) qo_none)) (qa_cons (q_ty (l_list hK rfl) L_list (by rfl) A.B.list (by decide +kernel) (qa_cons (q_var 1) qa_nil)) (qa_cons (q_op (l_add hK) L_add (q_var 1) (q_tup (qa_cons q_int qa_nil))) (qa_cons (q_sl hK (q_var 1) qo_none (qo_some (q_un un_neg L_neg q_int))) qa_nil)))))))
    (qs_one (q_ret (q_calX (c_L_pick A) hM hr (by decide) (by rfl) L (qa_cons (q_var 0) (qa_cons (q_op (l_add hK) L_add (q_op (l_add hK) L_add (q_var 4) (q_op l_mulX L_mulX (q_sl hK (q_var 4) qo_none (qo_some q_int)) q_int)) (froz (qf_lst (qa_cons q_non (qa_cons q_int (qa_cons (q_tup qa_nil) (qa_cons (froz qf_d0) (qa_cons q_str (qa_cons (q_revT hK (q_var 1)) qa_nil))))))))) qa_nil)))))))))
end
end G69
namespace G69
open PySem PySem.Spec PyProof.Rows L2
section
variable {P : Program} {w : World} {K : PySem.W.Frag} {mg : Str → Option Value} {base : Heap}
set_option maxHeartbeats 0 in
theorem c_law (A : All P K mg) (hsm : ∃ mm, base.Ns sysModules mm) (hW : ∀ n ≤ 63, w_law lawD (lawS n 15)) {f : Addr} {fd : FuncData} (F : Fun K "law" "law" s_law f fd) (hlt : ∀ cdv, fd.code = cdv → LamT K mg base (("law" : Str) ++ ".<locals>.") cdv) : FnOkG P w K mg base CX0 6 f fd ["_law_script"] (spLawT K mg) := by
  have CB : Cal P w K mg base "_law_begin" ["_law_script"] 1 (spBegin K) := A.d_L_begin.hand fun f fd F => ok_begin F A.B.abs A.B.list
  exact law3G (W := fun _ => w_law) F sc_law rfl (by decide) (fun cdv Ar outer s H E hr => ps_set (i := 1) sc_law.nd rfl (.inr rfl) (pe_cal CB hr (by decide) (by rfl) (pa_cons (pv 0) pa_nil))) (fun cdv Ar outer s H E G E3 hr hgd hcd hMq L => (have hM := hMq.1; have hq := hMq.2; have hK := hKof hM;
   (qs_cons (q_for (passes_of rfl) rfl (qi_r1 (by rfl) A.B.range (qa_cons q_int qa_nil)) (qg_name (i := 2) sc_law.nd rfl (.inl rfl)) (qs_cons (q_set (i := 3) sc_law.nd rfl (.inl rfl) (q_calX (c_L_machine_rows A) hM hr (by decide) (by rfl) lets0 (qa_cons (q_var 1) (qa_cons (q_op (l_add hK) L_add q_int (q_calX (c_L_take A) hM hr (by decide) (by rfl) lets0 (qa_cons (q_var 1) (qa_cons q_int qa_nil)))) qa_nil))))
    (qs_cons (q_set (i := 4) sc_law.nd rfl (.inr rfl) (q_mk hM (c_Machine__init_ A) rfl hr (by decide) (by rfl) lets0 (qa_cons (q_var 3) qa_nil)))
    (qs_one (q_for (passes_of rfl) rfl (qi_r1 (by rfl) A.B.range (qa_cons q_int qa_nil)) (qg_name (i := 5) sc_law.nd rfl (.inl rfl)) (qs_cons (q_set (i := 6) sc_law.nd rfl (.inr rfl) (q_op (l_add hK) L_add q_int (q_calX (c_L_take A) hM hr (by decide) (by rfl) lets0 (qa_cons (q_var 1) (qa_cons q_int qa_nil)))))
    (qs_cons (q_set (i := 7) sc_law.nd rfl (.inr rfl) (q_calX (c_L_take A) hM hr (by decide) (by rfl) lets0 (qa_cons (q_var 1) (qa_cons (q_op (l_add hK) L_add (q_var 6) q_int) qa_nil))))
    (qs_cons (q_set (i := 8) sc_law.nd rfl (.inr rfl) (q_calX (c_L_worths A) hM hr (by decide) (by rfl) lets0 (qa_cons (q_var 3) (qa_cons (q_var 7) (qa_cons (q_var 6) qa_nil)))))
    (qs_cons (q_for (passes_of rfl) rfl (qi_seq hK (froz (qf_lst (qa_cons (q_var 8) (qa_cons (q_calX (c_L_bent A) hM hr (by decide) (by rfl) lets0 (qa_cons (q_var 1) (qa_cons (q_var 8) qa_nil))) (qa_cons (q_ty (l_tuple hK) L_tuple (by rfl) A.B.tuple (by decide +kernel) (qa_cons (froz (qf_lc (own := [("_law_one", 10)]) (by decide) rfl sc_law.nd (qi_seq hK (q_var 3)) (blkOk_by (own := [("_law_one", 10)]) (N := n_law) (sc := defScope s_law) (by decide +kernel)) (fun _ _ _ _ _ => (qg_name (i := 10) sc_law.nd rfl (.inl rfl))) (fun _ _ _ _ _ => qts_nil) (fun _ _ _ _ _ => (q_calX (c_L_take A) hM hr (by decide) (by rfl) lets0 (qa_cons (q_var 1) (qa_cons q_int qa_nil)))))) qa_nil)) qa_nil)))))) (qg_name (i := 9) sc_law.nd rfl (.inl rfl)) (qs_cons (q_own (i := 11) sc_law.nd rfl (.inl rfl) (qf_lst (qa_cons (q_calX (c_shows_rate A) hM hr (by decide) (by rfl) lets0 (qa_cons (q_var 4) (qa_cons (q_var 7) (qa_cons (q_var 6) (qa_cons (q_var 9) qa_nil))))) qa_nil)))
    (qs_cons (q_app 11 (q_kcalP (ks := ["thing", "q", "p", "machine"]) [3, 2, 1, 0] (c_shows_rate A) A.d_shows_rate hM hr (by decide) (by rfl) (qk_cons (q_var 9) (qk_cons (q_var 6) (qk_cons (q_var 7) (qk_cons (q_var 4) qk_nil)))) (fun _ _ _ _ _ _ ws hl => match ws, hl with | [_, _, _, _], _ => rfl)))
    (qs_one (q_if (q_borT 11 (q_tcmp (l_ne hK hr.units) L_ne (q_bi (l_rep hK hgd hr hsm) L_rep (by rfl) A.b_repr (by decide +kernel) (qa_cons (q_var 11) qa_nil)) (q_bi (l_rep hK hgd hr hsm) L_rep (by rfl) A.b_repr (by decide +kernel) (qa_cons (q_op l_mulX L_mulX (froz (qf_lst (qa_cons (q_calX (c_L_due A) hM hr (by decide) (by rfl) lets0 (qa_cons (q_var 3) (qa_cons (q_var 7) (qa_cons (q_var 6) (qa_cons (q_var 9) qa_nil))))) qa_nil))) q_int) qa_nil)) (nomark _))) (qs_one (q_ret q_bl)) qs_nil)))))
    (qs_cons (q_set (i := 12) sc_law.nd rfl (.inr rfl) (q_calX (c_L_pick A) hM hr (by decide) (by rfl) lets0 (qa_cons (q_var 1) (qa_cons (froz (qf_lst (qa_cons q_non (qa_cons q_bl (qa_cons q_str (qa_cons (q_tup (qa_cons q_int qa_nil)) (qa_cons (froz (qf_lst qa_nil)) (qa_cons (q_op op_pow L_pow q_int q_int) (qa_cons (q_un un_neg L_neg q_int) (qa_cons q_int (qa_cons (q_un un_neg L_neg (q_op op_pow L_pow q_int q_int)) qa_nil))))))))))) qa_nil))))
    (qs_cons (q_set (i := 10) sc_law.nd rfl (.inl rfl) (q_lam (l := 3) (c_L_caught A) hM (hlt _ hcd) hr (by decide) (by decide) (by rfl) (LamX.lamS_by (by rfl)) rfl (fun _ _ _ _ _ => rfl) (fun Al outl sl Hl El fl cl G E3 hr hMq L => (have hM := hMq.1; have hq := hMq.2; have hK := hKof hM;
   (q_calX (c_shows_rate A) hM hr (by decide) (by rfl) L (qa_cons (q_var 4) (qa_cons (q_var 12) (qa_cons (q_var 6) (qa_cons (q_var 8) qa_nil)))))))))
    (qs_cons (q_set (i := 13) sc_law.nd rfl (.inl rfl) (qe_or (qe_not (q_isi (k := .int) hM (by rfl) A.B.isinst (q_var 12) (pe_bltn (v := .ty "int") (by rfl) A.B.int (by decide +kernel) rfl))) (qe_one (q_isi (k := .bool) hM (by rfl) A.B.isinst (q_var 12) (pe_bltn (v := .ty "bool") (by rfl) A.B.bool (by decide +kernel) rfl)))))
    (qs_cons (q_set (i := 14) sc_law.nd rfl (.inl rfl) (q_lam (l := 3) (c_L_caught A) hM (hlt _ hcd) hr (by decide) (by decide) (by rfl) (LamX.lamS_by (by rfl)) rfl (fun _ _ _ _ _ => rfl) (fun Al outl sl Hl El fl cl G E3 hr hMq L => (have hM := hMq.1; have hq := hMq.2; have hK := hKof hM;
   (q_calX (c_shows_rate A) hM hr (by decide) (by rfl) L (qa_cons (q_var 4) (qa_cons (q_var 7) (qa_cons (q_var 12) (qa_cons (q_var 8) qa_nil)))))))))
    (qs_cons (q_if (PW.pt (q_or (q_tcmp (l_ne hK hr.units) L_ne (q_isE hM A.ei_BadNumber rfl (by rfl) A.B.isinst (by rfl) (q_var 10)) (qe_or (q_var 13) (qe_one (q_cmp op_lt L_i2 (q_var 12) q_int (nomark _)))) (nomark _)) (q_or1 (q_val (q_isE hM A.ei_BadText rfl (by rfl) A.B.isinst (by rfl) (q_var 10)))))) (qs_one (q_ret q_bl)) qs_nil)
    (qs_one (q_if (PW.pt (q_or (q_tcmp (l_ne hK hr.units) L_ne (q_isE hM A.ei_BadNumber rfl (by rfl) A.B.isinst (by rfl) (q_var 14)) (qe_or (q_var 13) (qe_one (q_cmp op_lt L_i2 (q_var 12) q_int (nomark _)))) (nomark _)) (q_or1 (q_val (q_isE hM A.ei_BadText rfl (by rfl) A.B.isinst (by rfl) (q_var 14)))))) (qs_one (q_ret q_bl)) qs_nil))))))))))))))))
    (qs_one (q_ret q_bl))))) hW
end
end G69
namespace G69
open PySem PySem.Spec PyProof.Rows L2
/-! ### reading mirrors -/
theorem forW_inv {g : TG3} {tb : TS3} {D : Ends3} {ts : List T} {s : S3} (I : Nat → S3 → Prop) (h0 : I 0 s)
    (hs : ∀ (i : Nat) (t : T) (s : S3) (N : S3 → Prop), ts[i]? = some t → I i s → (∀ s', I (i + 1) s' → N s') → g t s fun s2 => tb { nx := N, rt := D.rt, bk := D.nx, ct := N, rq := D.rq } s2) (hd : ∀ s, I ts.length s → D.nx s) : forW g tb D ts s := by
  have go : ∀ (us : List T) (i : Nat) (s : S3), ts.drop i = us → i ≤ ts.length → I i s → forW g tb D us s := by
    intro us
    induction us with
    | nil =>
      intro i s e hi h
      have : i = ts.length := by
        have := List.drop_eq_nil_iff.mp e
        omega
      subst this
      exact hd s h
    | cons t us ih =>
      intro i s e hi h
      have hlt : i < ts.length := by
        by_cases q : i < ts.length
        · exact q
        · rw [List.drop_eq_nil_of_le (by omega)] at e
          cases e
      have ht : ts[i]? = some t := by
        rw [List.drop_eq_getElem_cons hlt] at e
        rw [List.getElem?_eq_getElem hlt]
        exact congrArg some (List.cons.inj e).1
      have e2 : ts.drop (i + 1) = us := by
        rw [List.drop_eq_getElem_cons hlt] at e
        exact (List.cons.inj e).2
      exact hs i t s _ ht h fun s' h' => ih (i + 1) s' e2 hlt h'
  exact go ts 0 s (List.drop_zero ..) (Nat.zero_le _) h0
theorem lcW_fun {g : TG3} {tt : TT3} {te : TE3} {vs : List Nat} {K : List T → S3 → Prop} (f : T → Option T) (s0 : S3) : ∀ {ts acc : List T} {s : S3}, wipe3 s vs = s0 →
    (∀ t ∈ ts, ∀ R : Option T → S3 → Prop, (∀ s', wipe3 s' vs = s0 → R (f t) s') → g t s0 fun s2 => tt s2 fun b s3 => If3 b (te s3 fun y s4 => R (some y) s4) (R none s3)) →
    (∀ s', wipe3 s' vs = s0 → K (acc ++ ts.filterMap f) s') → lcW g tt te vs K ts acc s
  | [], acc, s, hw, _, hk => by
    have := hk s hw
    rw [List.filterMap_nil, List.append_nil] at this
    exact this
  | t :: ts, acc, s, hw, h, hk => by
    have h1 := h t List.mem_cons_self (fun o s' => match o with
      | some y => lcW g tt te vs K ts (acc ++ [y]) s'
      | none => lcW g tt te vs K ts acc s') ?_
    · show g t (wipe3 s vs) _
      rw [hw]
      exact h1
    · intro s' hw'
      cases e : f t with
      | some y =>
        refine lcW_fun f s0 hw' (fun u hu => h u (List.mem_cons_of_mem _ hu)) fun s2 h2 => ?_
        have := hk s2 h2
        rw [List.filterMap_cons_some e] at this
        rw [List.append_assoc]
        exact this
      | none =>
        refine lcW_fun f s0 hw' (fun u hu => h u (List.mem_cons_of_mem _ hu)) fun s2 h2 => ?_
        have := hk s2 h2
        rw [List.filterMap_cons_none e] at this
        exact this
/-- .. without a test -/
theorem lcW_map {g : TG3} {te : TE3} {vs : List Nat} {K : List T → S3 → Prop} (f : T → T) (s0 : S3) {ts : List T} {s : S3} (hw : wipe3 s vs = s0)
    (h : ∀ t ∈ ts, ∀ R : T → S3 → Prop, (∀ s', wipe3 s' vs = s0 → R (f t) s') → g t s0 fun s2 => te s2 fun y s4 => R y s4) (hk : ∀ s', wipe3 s' vs = s0 → K (ts.map f) s') : lcW g tYes3 te vs K ts [] s :=
  lcW_fun (fun t => some (f t)) s0 hw (fun t ht R hR => h t ht (fun y s' => R (some y) s') hR) fun s' h' => by
    have := hk s' h'
    rw [List.nil_append, List.filterMap_eq_map']
    exact this
def put3 (s : S3) (x : Nat → Sl) : List Nat → S3
  | [] => s
  | v :: vs => (put3 s x vs).set v (x v)
theorem put3_len (s : S3) (x : Nat → Sl) : ∀ vs : List Nat, (put3 s x vs).length = s.length
  | [] => rfl
  | v :: vs => by unfold put3; rw [List.length_set, put3_len s x vs]
theorem put3_at (s : S3) (x : Nat → Sl) (i : Nat) : ∀ vs : List Nat, (put3 s x vs)[i]? = if i ∈ vs ∧ i < s.length then some (x i) else s[i]?
  | [] => by unfold put3; rw [if_neg (fun h => by cases h.1)]
  | v :: vs => by
    unfold put3
    rw [List.getElem?_set, put3_at s x i vs, put3_len]
    by_cases e : v = i
    · subst e
      rw [if_pos rfl]
      by_cases hl : v < s.length
      · rw [if_pos hl, if_pos ⟨List.mem_cons_self, hl⟩]
      · rw [if_neg hl, if_neg (fun h => hl h.2), List.getElem?_eq_none (by omega)]
    · rw [if_neg e]
      by_cases hm : i ∈ vs ∧ i < s.length
      · rw [if_pos hm, if_pos ⟨List.mem_cons_of_mem _ hm.1, hm.2⟩]
      · rw [if_neg hm, if_neg (fun h => hm ⟨by rcases List.mem_cons.mp h.1 with h | h; exact absurd h.symm e; exact h, h.2⟩)]
theorem put3_of {s s0 : S3} {vs : List Nat} (h : wipe3 s vs = s0) : s = put3 s0 (fun i => s.getD i .no) vs := by
  subst h
  apply List.ext_getElem?
  intro i
  rw [put3_at, wipe3_len]
  by_cases hm : i ∈ vs
  · by_cases hl : i < s.length
    · rw [if_pos ⟨hm, hl⟩, List.getElem?_eq_getElem hl, List.getD_eq_getElem?_getD, List.getElem?_eq_getElem hl]
      rfl
    · rw [if_neg (fun h => hl h.2), List.getElem?_eq_none (by omega), List.getElem?_eq_none (by rw [wipe3_len]; omega)]
  · rw [if_neg (fun h => hm h.1), wipe3_out hm]
theorem lcW_acc {α β : Type} {g : TG3} {te : TE3} {vs : List Nat} {K : List T → S3 → Prop} (h : α → T) (f : α → β) (k : β → T) (s0 : S3) : ∀ {l : List α} {acc : List T} {s : S3}, wipe3 s vs = s0 →
    (∀ x ∈ l, ∀ R : T → S3 → Prop, (∀ s', wipe3 s' vs = s0 → R (k (f x)) s') → g (h x) s0 fun s2 => te s2 fun y s4 => R y s4) →
    (∀ x : Nat → Sl, K (acc ++ (l.map f).map k) (put3 s0 x vs)) → lcW g tYes3 te vs K (l.map h) acc s
  | [], acc, s, hw, _, hk => by
    have := hk (fun i => s.getD i .no)
    rw [← put3_of hw] at this
    rw [List.map_nil, List.map_nil, List.append_nil] at this
    exact this
  | x :: l, acc, s, hw, H, hk => by
    show g (h x) (wipe3 s vs) _
    rw [hw]
    refine H x List.mem_cons_self (fun y s4 => lcW g tYes3 te vs K (l.map h) (acc ++ [y]) s4) fun s' hs' => ?_
    refine lcW_acc h f k s0 hs' (fun u hu => H u (List.mem_cons_of_mem _ hu)) fun x2 => ?_
    have := hk x2
    rw [List.map_cons, List.map_cons] at this
    rw [List.append_assoc]
    exact this
theorem back3_ix (s s4 : S3) (i : Nat) : ∀ vs : List Nat, (back3 s s4 vs)[i]? = if i ∈ vs ∧ i < s4.length then some (match s[i]? with
    | some (.sh t) => .sh t
    | _ => .no) else s4[i]?
  | [] => by unfold back3; rw [if_neg (fun h => by cases h.1)]
  | v :: vs => by
    have hl : (back3 s s4 vs).length = s4.length := by
      clear back3_ix
      induction vs with
      | nil => rfl
      | cons u us ih => unfold back3; rw [List.length_set, ih]
    unfold back3
    rw [List.getElem?_set, back3_ix s s4 i vs, hl]
    by_cases e : v = i
    · subst e
      rw [if_pos rfl]
      by_cases hl : v < s4.length
      · exact (if_pos hl).trans (if_pos ⟨List.mem_cons_self, hl⟩).symm
      · rw [if_neg hl, if_neg (fun h => hl h.2), List.getElem?_eq_none (by omega)]
    · rw [if_neg e]
      by_cases hm : i ∈ vs ∧ i < s4.length
      · rw [if_pos hm, if_pos ⟨List.mem_cons_of_mem _ hm.1, hm.2⟩]
      · rw [if_neg hm, if_neg (fun h => hm ⟨by rcases List.mem_cons.mp h.1 with h | h; exact absurd h.symm e; exact h, h.2⟩)]
theorem back3_same {s s4 : S3} {vs : List Nat} (h : wipe3 s4 vs = wipe3 s vs) : back3 s s4 vs = back3 s s vs := by
  have hl : s4.length = s.length := by rw [← wipe3_len s4 vs, ← wipe3_len s vs, h]
  apply List.ext_getElem?
  intro i
  rw [back3_ix, back3_ix, hl]
  by_cases hm : i ∈ vs
  · by_cases hi : i < s.length
    · rw [if_pos ⟨hm, hi⟩, if_pos ⟨hm, hi⟩]
    · rw [if_neg (fun h => hi h.2), if_neg (fun h => hi h.2), List.getElem?_eq_none (by omega), List.getElem?_eq_none (by omega)]
  · rw [if_neg (fun h => hm h.1), if_neg (fun h => hm h.1), ← wipe3_out (s := s4) hm, ← wipe3_out (s := s) hm, h]
/-- a comprehension over a mapped list: s0 is the state when it begins -/
theorem lc_on {α β : Type} {ti : TI3} {g : TG3} {te : TE3} {vs : List Nat} {s : S3} {Q : T → S3 → Prop} (h : α → T) (f : α → β) (k : β → T) (l : List α) (s0 : S3) {w0 : S3} (hi : ∀ P : List T → S3 → Prop, P (l.map h) s0 → ti s P)
    (H : ∀ x ∈ l, ∀ R : T → S3 → Prop, (∀ s', wipe3 s' vs = w0 → R (k (f x)) s') → g (h x) w0 fun s2 => te s2 fun y s4 => R y s4)
    (q : Q (.lst ((l.map f).map k)) s0) (hw : wipe3 s0 vs = w0 := by first | (simp only [wipe3, List.set_cons_zero, List.set_cons_succ]; done) | (simp only [wipe3, List.set_cons_zero, List.set_cons_succ]; rfl) | rfl) (hb : back3 s0 s0 vs = s0 := by rfl) : tLc3 ti g tYes3 te vs s Q := by
  rw [u_tLc3]
  refine hi _ (lcW_acc h f k w0 hw H fun x => ?_)
  have e : back3 s0 (put3 w0 x vs) vs = s0 := by
    rw [back3_same, hb]
    rw [hw]
    subst hw
    apply List.ext_getElem?
    intro i
    by_cases hm : i ∈ vs
    · have w1 : ∀ (s : S3) (us : List Nat), i ∈ us → (wipe3 s us)[i]? = if i < s.length then some .no else none := by
        intro s us
        induction us with
        | nil => intro h; cases h
        | cons u us ih =>
          intro hu
          unfold wipe3
          rw [List.getElem?_set, wipe3_len]
          by_cases e : u = i
          · subst e
            rw [if_pos rfl]
          · rw [if_neg e]
            exact ih (by rcases List.mem_cons.mp hu with h | h; exact absurd h.symm e; exact h)
      rw [w1 _ _ hm, w1 _ _ hm, put3_len, wipe3_len]
    · rw [wipe3_out hm, put3_at, if_neg (fun h => hm h.1)]
  show Q _ (back3 s0 (put3 w0 x vs) vs)
  rw [e]
  exact q
theorem for_inv {ti : TI3} {g : TG3} {tb : TS3} {D : Ends3} {s : S3} (ts : List T) (s0 : S3) (I : Nat → S3 → Prop) (hi : ∀ P : List T → S3 → Prop, P ts s0 → ti s P) (h0 : I 0 s0)
    (hs : ∀ (i : Nat) (t : T) (s : S3) (N : S3 → Prop), ts[i]? = some t → I i s → (∀ s', I (i + 1) s' → N s') → g t s fun s2 => tb { nx := N, rt := D.rt, bk := D.nx, ct := N, rq := D.rq } s2) (hd : ∀ s, I ts.length s → D.nx s) : tFor3 ti g tb D s := by
  rw [u_tFor3]
  exact hi _ (forW_inv I h0 hs hd)
end G69
namespace G69
open PySem PySem.Spec PyProof.Rows L2
/-! ### comprehensions with a test -/
theorem lcW_fil {α : Type} {g : TG3} {tt : TT3} {te : TE3} {vs : List Nat} {K : List T → S3 → Prop} (h : α → T) (p : α → Bool) (k : α → T) (s0 : S3) : ∀ {l : List α} {acc : List T} {s : S3}, wipe3 s vs = s0 →
    (∀ x ∈ l, ∀ R : Option T → S3 → Prop, (∀ s', wipe3 s' vs = s0 → R (if p x then some (k x) else none) s') → g (h x) s0 fun s2 => tt s2 fun b s3 => If3 b (te s3 fun y s4 => R (some y) s4) (R none s3)) →
    (∀ x : Nat → Sl, K (acc ++ (l.filter p).map k) (put3 s0 x vs)) → lcW g tt te vs K (l.map h) acc s
  | [], acc, s, hw, _, hk => by
    have := hk (fun i => s.getD i .no)
    rw [← put3_of hw] at this
    rw [List.filter_nil, List.map_nil, List.append_nil] at this
    exact this
  | x :: l, acc, s, hw, H, hk => by
    show g (h x) (wipe3 s vs) _
    rw [hw]
    refine H x List.mem_cons_self (fun o s4 => match o with
      | some y => lcW g tt te vs K (l.map h) (acc ++ [y]) s4
      | none => lcW g tt te vs K (l.map h) acc s4) fun s' hs' => ?_
    cases e : p x with
    | true =>
      rw [if_pos rfl]
      refine lcW_fil h p k s0 hs' (fun u hu => H u (List.mem_cons_of_mem _ hu)) fun x2 => ?_
      have := hk x2
      rw [List.filter_cons, e, if_pos rfl, List.map_cons] at this
      rw [List.append_assoc]
      exact this
    | false =>
      rw [if_neg Bool.false_ne_true]
      refine lcW_fil h p k s0 hs' (fun u hu => H u (List.mem_cons_of_mem _ hu)) fun x2 => ?_
      have := hk x2
      rw [List.filter_cons, e, if_neg Bool.false_ne_true] at this
      exact this
theorem back_put {s0 w0 : S3} {vs : List Nat} (hw : wipe3 s0 vs = w0) (hb : back3 s0 s0 vs = s0) (x : Nat → Sl) : back3 s0 (put3 w0 x vs) vs = s0 := by
  rw [back3_same, hb]
  rw [hw]
  subst hw
  apply List.ext_getElem?
  intro i
  by_cases hm : i ∈ vs
  · have w1 : ∀ (s : S3) (us : List Nat), i ∈ us → (wipe3 s us)[i]? = if i < s.length then some .no else none := by
      intro s us
      induction us with
      | nil => intro h; cases h
      | cons u us ih =>
        intro hu
        unfold wipe3
        rw [List.getElem?_set, wipe3_len]
        by_cases e : u = i
        · subst e
          rw [if_pos rfl]
        · rw [if_neg e]
          exact ih (by rcases List.mem_cons.mp hu with h | h; exact absurd h.symm e; exact h)
    rw [w1 _ _ hm, w1 _ _ hm, put3_len, wipe3_len]
  · rw [wipe3_out hm, put3_at, if_neg (fun h => hm h.1)]
theorem lc_fil {α : Type} {ti : TI3} {g : TG3} {tt : TT3} {te : TE3} {vs : List Nat} {s : S3} {Q : T → S3 → Prop} (h : α → T) (p : α → Bool) (k : α → T) (l : List α) (s0 : S3) {w0 : S3} (hi : ∀ P : List T → S3 → Prop, P (l.map h) s0 → ti s P)
    (H : ∀ x ∈ l, ∀ R : Option T → S3 → Prop, (∀ s', wipe3 s' vs = w0 → R (if p x then some (k x) else none) s') → g (h x) w0 fun s2 => tt s2 fun b s3 => If3 b (te s3 fun y s4 => R (some y) s4) (R none s3))
    (q : Q (.lst ((l.filter p).map k)) s0) (hw : wipe3 s0 vs = w0 := by first | (simp only [wipe3, List.set_cons_zero, List.set_cons_succ]; done) | (simp only [wipe3, List.set_cons_zero, List.set_cons_succ]; rfl) | rfl) (hb : back3 s0 s0 vs = s0 := by rfl) : tLc3 ti g tt te vs s Q := by
  rw [u_tLc3]
  refine hi _ (lcW_fil h p k w0 hw H fun x => ?_)
  show Q _ (back3 s0 (put3 w0 x vs) vs)
  rw [back_put hw hb]
  exact q
def Asc (z : Str) : Prop := ∀ c ∈ TL.tl z, c < 128
theorem asc_l {z : Str} (h : (TL.tl z).all (fun c => decide (c < 128)) = true) : Asc z := fun c hc => of_decide_eq_true (List.all_eq_true.mp h c hc)
theorem asc_app {a b : Str} (ha : Asc a) (hb : Asc b) : Asc (a ++ b) := by
  intro c hc
  rw [TL.tl_append] at hc
  rcases List.mem_append.mp hc with h | h
  · exact ha c h
  · exact hb c h
theorem strOk_asc {z : Str} (h : Asc z) : PyData.strOk z = true := by
  unfold PyData.strOk
  rw [← Array.all_toList, List.all_eq_true]
  intro c hc
  have := h c hc
  rw [decide_eq_true_eq]
  omega
theorem okD_sg {cs : List Nat} (h : ∀ c ∈ cs, c < 128) : okD (.lst (cs.map fun c => T.str ⟨#[c]⟩)) = true := by
  have e : (T.lst (cs.map fun c => T.str ⟨#[c]⟩)).toD = .list (cs.map fun c => PyData.str ⟨#[c]⟩) := by
    have : ∀ l : List Nat, toDs (l.map fun c => T.str ⟨#[c]⟩) = l.map fun c => PyData.str ⟨#[c]⟩ := by
      intro l
      induction l with
      | nil => rfl
      | cons x l ih => rw [List.map_cons, toDs, ih]; rfl
    show PyData.list _ = _
    rw [this]
  unfold okD
  rw [e]
  unfold SeqAt.shaped
  have h1 : ∀ l : List Nat, (∀ c ∈ l, c < 128) → PyData.canLayAll0 (l.map fun c => PyData.str ⟨#[c]⟩) = true := by
    intro l
    induction l with
    | nil => intro _; simp only [List.map_nil, PyData.canLayAll0]
    | cons x l ih =>
      intro hl
      have hx : PyData.strOk ⟨#[x]⟩ = true := by
        have := hl x List.mem_cons_self
        unfold PyData.strOk
        rw [← Array.all_toList, List.all_eq_true]
        intro c hc
        rw [List.mem_singleton.mp hc, decide_eq_true_eq]
        omega
      simp only [List.map_cons, PyData.canLayAll0, PyData.canLay0, ih fun c hc => hl c (List.mem_cons_of_mem _ hc), hx, Bool.and_self]
  have h2 : ∀ l : List Nat, PyData.depthAll (l.map fun c => PyData.str ⟨#[c]⟩) ≤ 1 := by
    intro l
    induction l with
    | nil => simp only [List.map_nil, PyData.depthAll]; omega
    | cons x l ih =>
      simp only [List.map_cons, PyData.depthAll, PyData.depth]
      omega
  have h3 : PyData.depth (.list (cs.map fun c => PyData.str ⟨#[c]⟩)) ≤ 64 := by
    have := h2 cs
    simp only [PyData.depth]
    omega
  rw [decide_eq_true h3, Bool.and_true]
  simp only [PyData.canLay0]
  exact h1 cs h
theorem eqT_nil (xs : List T) : eqT (.lst xs) (.lst []) = xs.isEmpty := by
  unfold eqT
  cases xs with
  | nil => rfl
  | cons x r =>
    show PyData.eqv (.list (toDs (x :: r))) (.list (toDs [])) = false
    simp [toDs, PyData.eqv, PyData.eqvAll]
theorem fil_nil {α : Type} (p : α → Bool) (f : α → T) (l : List α) : (((l.filter fun c => !p c).map f).isEmpty) = l.all p := by
  rw [List.isEmpty_map, Bool.eq_iff_iff, List.isEmpty_iff, List.filter_eq_nil_iff, List.all_eq_true]
  constructor
  · intro h c hc
    have := h c hc
    cases hd : p c with
    | true => rfl
    | false => rw [hd] at this; exact absurd rfl this
  · intro h c hc
    rw [h c hc]
    decide
theorem asc_cut {z : Str} {lo hi : Option Int} (h : Asc z) : Asc (cutS z lo hi) := fun c hc => h c (List.mem_of_mem_drop (List.mem_of_mem_take (show c ∈ ((TL.tl z).drop (HT.sIx z.length 0 lo)).take _ from hc)))
end G69
namespace G69
open PySem PySem.Spec PyProof.Rows L2
/-! ### drawing, cutting -/
theorem rngT_inv {n i : Nat} {t : T} (h : (rngT 0 n)[i]? = some t) : i < n ∧ t = .int (i : Nat) := by
  have hi := (List.getElem?_eq_some_iff.mp h).1
  rw [rngT_len] at hi
  rw [rngT_at hi, Int.zero_add] at h
  exact ⟨hi, (Option.some.inj h).symm⟩
theorem m_pick {ts : List T} {Q : T → Prop} (h0 : ts ≠ []) (hl : ts.length ≤ 1000000) (q : ∀ t ∈ ts, Q t) : w_L_pick [.drw, .lst ts] Q Xk := by
  rw [u_L_pick]; unfold b_L_pick
  have h1 : 0 < ts.length := List.length_pos_iff.mpr h0
  refine ⟨⟨by omega, by omega⟩, fun r r0 r1 => ?_⟩
  have hr : r.toNat < ts.length := by omega
  have e : r = ((r.toNat : Nat) : Int) := by omega
  generalize r.toNat = k at hr e
  subst e
  exact ⟨ts[k], atI_nat (List.getElem?_eq_getElem hr), q _ (List.getElem_mem hr)⟩
theorem cut_take {α : Type} (k : α → T) (l : List α) (n : Nat) : cutT (l.map k) none (some (n : Int)) = (l.take n).map k := by
  unfold cutT
  have e : HT.sIx (l.map k).length (l.map k).length (some (n : Int)) = min n l.length := by
    unfold HT.sIx
    dsimp only
    rw [if_neg (by omega), List.length_map]
    show min (Int.toNat (n : Int)) l.length = _
    rw [Int.toNat_natCast]
  rw [e]
  show ((l.map k).drop 0).take (min n l.length - 0) = _
  rw [List.drop_zero, Nat.sub_zero, ← List.map_take]
  congr 1
  by_cases h : n ≤ l.length
  · rw [Nat.min_eq_left h]
  · rw [Nat.min_eq_right (by omega), List.take_length, List.take_of_length_le (by omega)]
theorem cut_drop {α : Type} (k : α → T) (l : List α) (n : Nat) : cutT (l.map k) (some (n : Int)) none = (l.drop n).map k := by
  unfold cutT
  have e : HT.sIx (l.map k).length 0 (some (n : Int)) = min n l.length := by
    unfold HT.sIx
    dsimp only
    rw [if_neg (by omega), List.length_map]
    show min (Int.toNat (n : Int)) l.length = _
    rw [Int.toNat_natCast]
  rw [e]
  show ((l.map k).drop (min n l.length)).take ((l.map k).length - min n l.length) = _
  rw [List.take_of_length_le (by rw [List.length_drop]; omega), ← List.map_drop]
  congr 1
  by_cases h : n ≤ l.length
  · rw [Nat.min_eq_left h]
  · rw [Nat.min_eq_right (by omega), List.drop_length, List.drop_eq_nil_of_le (by omega)]
theorem tk_nat {n : Int} {Q : Int → Prop} (q : ∀ k : Nat, (k : Int) < n → Q (k : Nat)) : ∀ r : Int, 0 ≤ r → r < n → Q r := fun r r0 r1 => by
  have e : r = ((r.toNat : Nat) : Int) := by omega
  rw [e]
  exact q _ (by omega)
theorem cut_drop1 {α : Type} (k : α → T) (l : List α) (n : Nat) : cutT (l.map k) (some ((n : Int) + 1)) none = (l.drop (n + 1)).map k := cut_drop k l (n + 1)
theorem cut_drop2 {α : Type} (k : α → T) (l : List α) (n : Nat) : cutT (l.map k) (some ((n : Int) + 2)) none = (l.drop (n + 2)).map k := cut_drop k l (n + 2)
theorem cut_take1 {α : Type} (k : α → T) (l : List α) (n : Nat) : cutT (l.map k) none (some ((n : Int) + 1)) = (l.take (n + 1)).map k := cut_take k l (n + 1)
theorem cut_mid2 {α : Type} (k : α → T) (l : List α) (n : Nat) (hn : n ≤ l.length) : cutT (l.map k) (some (n : Int)) (some ((n : Int) + 2)) = ((l.drop n).take 2).map k := by
  unfold cutT
  have e1 : HT.sIx (l.map k).length 0 (some (n : Int)) = n := by
    unfold HT.sIx
    dsimp only
    rw [if_neg (by omega), List.length_map]
    show min (Int.toNat (n : Int)) l.length = _
    rw [Int.toNat_natCast]
    omega
  have e2 : HT.sIx (l.map k).length (l.map k).length (some ((n : Int) + 2)) = min (n + 2) l.length := by
    unfold HT.sIx
    dsimp only
    rw [if_neg (by omega), List.length_map]
    show min (Int.toNat (((n + 2 : Nat)) : Int)) l.length = _
    rw [Int.toNat_natCast]
  rw [e1, e2, ← List.map_drop, ← List.map_take]
  congr 1
  by_cases h : n + 2 ≤ l.length
  · rw [Nat.min_eq_left h]
    congr 1
    omega
  · rw [Nat.min_eq_right (by omega), List.take_of_length_le (by rw [List.length_drop]; omega), List.take_of_length_le (by rw [List.length_drop]; omega)]
theorem mem_cut {xs : List T} {lo hi : Option Int} {t : T} (h : t ∈ cutT xs lo hi) : t ∈ xs := by
  unfold cutT at h
  exact List.mem_of_mem_drop (List.mem_of_mem_take h)
theorem seq_nat {r n : Nat} (h : r < n) : seqIndex? (r : Int) n = some r := by
  simp [seqIndex?, show ¬ (r : Int) < 0 by omega, h]
theorem for_any {ti : TI3} {g : TG3} {tb : TS3} {D : Ends3} {s : S3} (h : ti s fun ts s1 => forW g tb D ts s1) : tFor3 ti g tb D s := by
  rw [u_tFor3]
  exact h
end G69
namespace G69
open PySem PySem.Spec PyProof.Rows L2
/-! ### a comprehension whose items are drawn -/
theorem lcW_all {g : TG3} {te : TE3} {vs : List Nat} {K : List T → S3 → Prop} (P : T → Prop) (s0 : S3) : ∀ {ts acc : List T} {s : S3}, wipe3 s vs = s0 →
    (∀ t ∈ ts, ∀ R : T → S3 → Prop, (∀ y s', P y → wipe3 s' vs = s0 → R y s') → g t s0 fun s2 => te s2 fun y s4 => R y s4) →
    (∀ (ys : List T) (x : Nat → Sl), ys.length = ts.length → (∀ y ∈ ys, P y) → K (acc ++ ys) (put3 s0 x vs)) → lcW g tYes3 te vs K ts acc s
  | [], acc, s, hw, _, hk => by
    have := hk [] (fun i => s.getD i .no) rfl (fun y h => by cases h)
    rw [← put3_of hw, List.append_nil] at this
    exact this
  | t :: ts, acc, s, hw, H, hk => by
    show g t (wipe3 s vs) _
    rw [hw]
    refine H t List.mem_cons_self (fun y s4 => lcW g tYes3 te vs K ts (acc ++ [y]) s4) fun y s' hy hs' => ?_
    refine lcW_all P s0 hs' (fun u hu => H u (List.mem_cons_of_mem _ hu)) fun ys x hl hp => ?_
    rw [List.append_assoc]
    refine hk (y :: ys) x (by rw [List.length_cons, List.length_cons, hl]) fun z hz => ?_
    rcases List.mem_cons.mp hz with rfl | hz
    · exact hy
    · exact hp z hz
theorem lc_all {ti : TI3} {g : TG3} {te : TE3} {vs : List Nat} {s : S3} {Q : T → S3 → Prop} (ts : List T) (P : T → Prop) (s0 : S3) {w0 : S3} (hi : ∀ R : List T → S3 → Prop, R ts s0 → ti s R)
    (H : ∀ t ∈ ts, ∀ R : T → S3 → Prop, (∀ y s', P y → wipe3 s' vs = w0 → R y s') → g t w0 fun s2 => te s2 fun y s4 => R y s4)
    (q : ∀ ys : List T, ys.length = ts.length → (∀ y ∈ ys, P y) → Q (.lst ys) s0) (hw : wipe3 s0 vs = w0 := by first | (simp only [wipe3, List.set_cons_zero, List.set_cons_succ]; done) | (simp only [wipe3, List.set_cons_zero, List.set_cons_succ]; rfl) | rfl) (hb : back3 s0 s0 vs = s0 := by rfl) : tLc3 ti g tYes3 te vs s Q := by
  rw [u_tLc3]
  refine hi _ (lcW_all P w0 hw H fun ys x hl hp => ?_)
  show Q _ (back3 s0 (put3 w0 x vs) vs)
  rw [back_put hw hb]
  exact q ys hl hp
/-! ### shown texts -/
theorem rep_ok {t : T} {P : T → Prop} (h1 : shE t = true) (h0 : t.toD.depth ≤ 64) (h2 : t.toD.showable = true) (h3 : t.toD.leavesShort 13 = true) (h4 : t.toD.weight ≤ 10000) (q : P (.str t.toD.shown)) : fRep [t] P := by
  unfold fRep
  refine ⟨⟨h1, h0, h2, szle ?_⟩, q⟩
  have := PyData.shown_le 13 (by decide) _ h3
  have h5 : (13 + 2) * t.toD.weight ≤ 15 * 10000 := Nat.mul_le_mul_left _ h4
  omega
theorem rep_bl2 {a b : Bool} {P : T → Prop} (q : P (.str (T.lst [.bl a, .bl b]).toD.shown)) : fRep [.lst [.bl a, .bl b]] P :=
  rep_ok (by rfl) (by cases a <;> cases b <;> decide) (by cases a <;> cases b <;> rfl) (by cases a <;> cases b <;> rfl) (by cases a <;> cases b <;> decide) q
theorem small_int {i : Int} (h0 : 0 ≤ i) (h : i ≤ 10 ^ 6) : decide ((PyData.shown (.int i)).length ≤ 13) = true ∧ decide (i.natAbs.log2 < 1920) = true := by
  have hn : i.natAbs ≤ 10 ^ 6 := by omega
  refine ⟨decide_eq_true (PyData.shown_int_le (Nat.lt_of_le_of_lt hn (by decide))), decide_eq_true ?_⟩
  by_cases hz : i.natAbs = 0
  · rw [hz]; decide
  · exact (Nat.log2_lt hz).mpr (Nat.lt_of_le_of_lt hn (Nat.lt_of_lt_of_le (by decide : 10 ^ 6 < 2 ^ 20) (Nat.pow_le_pow_right (by decide) (by decide))))
theorem small_wt {i : Int} (h0 : 0 ≤ i) (h : i ≤ 10 ^ 6) : (if (i == 0) = true then 0 else i.natAbs.log2 + 1) ≤ 1920 := by
  have := of_decide_eq_true (small_int h0 h).2
  split <;> omega
end G69
namespace G69
open PySem PySem.Spec PyProof.Rows L2
/-! ### values of any kind, at any depth, by weight -/
inductive Ve : Nat → T → Prop
  | non {d : Nat} : Ve d .non
  | bl {d : Nat} (x : Bool) : Ve d (.bl x)
  | int {d : Nat} {i : Int} (h : i.natAbs ≤ 10 ^ 60 + d) : Ve d (.int i)
  | str {d : Nat} {z : Str} (h : (z.cps.toList.all fun c => decide (c < 16 ^ 8)) = true) : Ve d (.str z)
  | dic {d : Nat} : Ve d (.dic [] [])
  | lst {d : Nat} {ts : List T} (h : ∀ x ∈ ts, Ve d x) : Ve (d + 1) (.lst ts)
  | tup {d : Nat} {ts : List T} (h : ∀ x ∈ ts, Ve d x) : Ve (d + 1) (.tup ts)
theorem Ve.mono {d d' : Nat} {t : T} (h : Ve d t) (hd : d ≤ d') : Ve d' t := by
  induction h generalizing d' with
  | non => exact .non
  | bl x => exact .bl x
  | int h => exact .int (Nat.le_trans h (by omega))
  | str h => exact .str h
  | dic => exact .dic
  | lst h ih =>
    obtain ⟨k, rfl⟩ : ∃ k, d' = k + 1 := ⟨d' - 1, by omega⟩
    exact .lst fun x hx => ih x hx (by omega)
  | tup h ih =>
    obtain ⟨k, rfl⟩ : ∃ k, d' = k + 1 := ⟨d' - 1, by omega⟩
    exact .tup fun x hx => ih x hx (by omega)
theorem Ve.ty {d : Nat} {t : T} (h : Ve d t) : ∃ ty, tyT t = some ty := by
  cases h <;> exact ⟨_, rfl⟩
def wt (t : T) : Nat := t.toD.weight
def wts (ts : List T) : Nat := PyData.weightAll (toDs ts)
theorem wts_cons (t : T) (ts : List T) : wts (t :: ts) = wt t + 1 + wts ts := by simp only [wts, wt, toDs, PyData.weightAll]
theorem wts_app : ∀ ts us : List T, wts (ts ++ us) = wts ts + wts us
  | [], us => by show wts us = 0 + wts us; omega
  | t :: ts, us => by rw [List.cons_append, wts_cons, wts_cons, wts_app ts us]; omega
theorem wts_sub : ∀ {ts us : List T}, ts.Sublist us → wts ts ≤ wts us
  | _, _, .slnil => Nat.le_refl _
  | _, _, .cons a h => by rw [wts_cons]; have := wts_sub h; omega
  | _, _, .cons₂ a h => by rw [wts_cons, wts_cons]; have := wts_sub h; omega
theorem wts_mem {ts : List T} {x : T} (h : x ∈ ts) : wt x + 1 ≤ wts ts := by
  induction ts with
  | nil => cases h
  | cons t ts ih =>
    rw [wts_cons]
    rcases List.mem_cons.mp h with rfl | h
    · omega
    · have := ih h; omega
theorem wts_len : ∀ ts : List T, ts.length ≤ wts ts
  | [] => Nat.zero_le _
  | t :: ts => by rw [wts_cons, List.length_cons]; have := wts_len ts; omega
theorem wts_rev (ts : List T) : wts ts.reverse = wts ts := by
  induction ts with
  | nil => rfl
  | cons t ts ih => rw [List.reverse_cons, wts_app, ih, wts_cons, wts_cons]; show _ + (_ + 1 + 0) = _; omega
theorem wt_lst (ts : List T) : wt (.lst ts) = wts ts := rfl
theorem wt_tup (ts : List T) : wt (.tup ts) = wts ts := rfl
theorem vast_int {i : Int} (h : i.natAbs ≤ 10 ^ 61) : (PyData.shown (.int i)).length ≤ 70 ∧ i.natAbs.log2 < 204 := by
  refine ⟨?_, ?_⟩
  · have e := int_text_length_le10 (k := 62) (by decide) (Nat.lt_of_le_of_lt h (by decide : 10 ^ 61 < 10 ^ 62))
    show (Str.ofString (toString i)).length ≤ 70
    rw [PySem.ofString_length]
    omega
  by_cases hz : i.natAbs = 0
  · rw [hz]; decide
  · exact (Nat.log2_lt hz).mpr (Nat.lt_of_le_of_lt h (by decide))
theorem wt_int {i : Int} (h : i.natAbs ≤ 10 ^ 61) : wt (.int i) ≤ 204 := by
  have := (vast_int h).2
  show (if (i == 0) = true then 0 else i.natAbs.log2 + 1) ≤ 204
  split <;> omega
theorem Ve.show {d : Nat} {t : T} (h : Ve d t) : d ≤ 60 → shE t = true ∧ t.toD.depth ≤ d + 1 ∧ t.toD.showable = true ∧ t.toD.leavesShort 70 = true := by
  have lists : ∀ {d : Nat} {ts : List T}, (∀ x ∈ ts, shE x = true ∧ x.toD.depth ≤ d + 1 ∧ x.toD.showable = true ∧ x.toD.leavesShort 70 = true) →
      shEs ts = true ∧ PyData.depthAll (toDs ts) ≤ d + 1 ∧ PyData.showableAll (toDs ts) = true ∧ PyData.leavesShortAll 70 (toDs ts) = true := by
    intro d ts
    induction ts with
    | nil => intro _; exact ⟨rfl, by simp only [toDs, PyData.depthAll]; omega, rfl, rfl⟩
    | cons t ts ih =>
      intro h
      obtain ⟨a1, a2, a3, a4⟩ := h t List.mem_cons_self
      obtain ⟨b1, b2, b3, b4⟩ := ih fun x hx => h x (List.mem_cons_of_mem _ hx)
      refine ⟨by simp only [shEs, a1, b1, Bool.and_self], ?_, by simp only [toDs, PyData.showableAll, a3, b3, Bool.and_self], by simp only [toDs, PyData.leavesShortAll, a4, b4, Bool.and_self]⟩
      simp only [toDs, PyData.depthAll]
      omega
  induction h with
  | non => intro _; exact ⟨rfl, by simp only [T.toD, PyData.depth]; omega, rfl, rfl⟩
  | bl x => intro _; exact ⟨rfl, by simp only [T.toD, PyData.depth]; omega, rfl, rfl⟩
  | @int d i h =>
    intro hd
    obtain ⟨b1, b2⟩ := vast_int (i := i) (by omega)
    refine ⟨rfl, by simp only [T.toD, PyData.depth]; omega, ?_, ?_⟩
    · simp only [T.toD, PyData.showable]
      exact decide_eq_true (by omega)
    · simp only [T.toD, PyData.leavesShort]
      exact decide_eq_true b1
  | @str d z h => intro _; exact ⟨rfl, by simp only [T.toD, PyData.depth]; omega, rfl, h⟩
  | dic => intro _; exact ⟨rfl, by simp only [T.toD, PyData.depth, PyData.depthKv]; omega, rfl, rfl⟩
  | @lst d ts h ih =>
    intro hd
    obtain ⟨a1, a2, a3, a4⟩ := lists fun x hx => ih x hx (by omega)
    refine ⟨by simp only [shE, a1], ?_, by simp only [T.toD, PyData.showable, a3], by simp only [T.toD, PyData.leavesShort, a4]⟩
    simp only [T.toD, PyData.depth]
    omega
  | @tup d ts h ih =>
    intro hd
    obtain ⟨a1, a2, a3, a4⟩ := lists fun x hx => ih x hx (by omega)
    refine ⟨by simp only [shE, a1], ?_, by simp only [T.toD, PyData.showable, a3], by simp only [T.toD, PyData.leavesShort, a4]⟩
    simp only [T.toD, PyData.depth]
    omega
theorem rep_ve {d : Nat} {t : T} {P : T → Prop} (h : Ve d t) (hd : d ≤ 60) (hs : wt t ≤ 100000) (q : P (.str t.toD.shown)) : fRep [t] P := by
  obtain ⟨h1, h2, h3, h4⟩ := h.show hd
  unfold fRep
  refine ⟨⟨h1, by omega, h3, Nat.le_trans (m := 7300000) ?_ (by decide)⟩, q⟩
  have := PyData.shown_le 70 (by decide) _ h4
  have h6 : (70 + 2) * t.toD.weight ≤ 72 * 100000 := Nat.mul_le_mul_left _ hs
  omega
/-- the text of a whole number -/
theorem nstr_ve {i : Int} (h : i.natAbs ≤ 10 ^ 61) : (nStr i).length ≤ 64 ∧ ((nStr i).cps.toList.all fun c => decide (c < 16 ^ 8)) = true := by
  refine ⟨?_, ?_⟩
  · have e := int_text_length_le10 (k := 62) (by decide) (Nat.lt_of_le_of_lt h (by decide : 10 ^ 61 < 10 ^ 62))
    show (Str.ofString (toString i)).length ≤ 64
    rw [PySem.ofString_length]
    omega
  · unfold nStr
    rw [PySem.Str.ofString_eq_toList, List.all_eq_true]
    intro c hc
    obtain ⟨x, _, rfl⟩ := List.mem_map.mp (by simpa using hc)
    have := x.val.toNat_lt
    exact decide_eq_true (by show x.val.toNat < 16 ^ 8; omega)
theorem f_strV {i : Int} {P : T → Prop} (h : i.natAbs ≤ 10 ^ 61) (q : P (.str (nStr i))) : fStr [.int i] P := by
  unfold fStr
  have h1 := (nstr_ve h).1
  have h2 := (vast_int h).2
  exact ⟨⟨by omega, Nat.le_trans h1 (by decide)⟩, q⟩
end G69
namespace G69
open PySem PySem.Spec PyProof.Rows L2
/-! ### letters, texts, rows -/
def isLb (c : Nat) : Bool := decide (97 ≤ c) && decide (c ≤ 122)
theorem abc_mem (c : Nat) : decide (c ∈ (Str.cps "abcdefghijklmnopqrstuvwxyz").toList) = isLb c := by
  have e : (Str.cps "abcdefghijklmnopqrstuvwxyz").toList = (List.range 26).map (· + 97) := by decide +kernel
  rw [e]
  unfold isLb
  rw [Bool.eq_iff_iff]
  simp only [decide_eq_true_eq, Bool.and_eq_true, List.mem_map, List.mem_range]
  constructor
  · rintro ⟨a, h, rfl⟩
    omega
  · rintro ⟨h1, h2⟩
    exact ⟨c - 97, by omega, by omega⟩
def isWx : T → Bool
  | .str z => z.cps.toList.all isLb && (decide (1 ≤ z.length) && decide (z.length ≤ 5))
  | _ => false
theorem m_is_integer {x : T} {b c : Bool} {Q : T → Prop} (h1 : isiT .int x = some b) (h2 : isiT .bool x = some c) (q : Q (.bl (b && !c))) : w_is_integer [x] Q Xk := by
  rw [u_is_integer]; unfold b_is_integer
  conv => whnf
  rw [h1]
  conv => whnf
  cases b with
  | false => exact q
  | true =>
    conv => whnf
    rw [h2]
    exact q
theorem m_int {i : Int} {Q : T → Prop} (q : Q (.bl true)) : w_is_integer [.int i] Q Xk := by
  rw [u_is_integer]; unfold b_is_integer
  exact q
theorem m_is_text {z : Str} {Q : T → Prop} (q : Q (.bl (z.cps.toList.all isLb))) : w_is_text [.str z] Q Xk := by
  rw [u_is_text]; unfold b_is_text
  refine lc_on (fun c => T.str ⟨#[c]⟩) isLb T.bl z.cps.toList [.sh (.str z), .no] (fun P h => h) (fun c hc R hR => ?_) ?_
  · conv => whnf
    rw [show (decide (c ∈ Array.toList (Str.cps "abcdefghijklmnopqrstuvwxyz")) : Bool) = isLb c from abc_mem c]
    exact hR [.sh (.str z), .sh (.str ⟨#[c]⟩)] rfl
  · conv => whnf
    rw [bls?_map]
    conv => whnf
    rw [List.all_map]
    exact q
theorem dec5x (z : Str) : decide (((z.length : Nat) : Int) ≤ 5) = decide (z.length ≤ 5) := by
  rw [Bool.eq_iff_iff, decide_eq_true_eq, decide_eq_true_eq]
  omega
theorem ch5 {z : Str} {P : T → Prop} (q : P (.bl (decide (1 ≤ z.length) && decide (z.length ≤ 5)))) : If3 (decide ((1 : Int) ≤ (z.length : Int))) (P (.bl (decide (((z.length : Nat) : Int) ≤ 5)))) (P (.bl false)) := by
  refine if3 (fun h => ?_) fun h => ?_
  · rw [decide_eq_true (by omega : 1 ≤ z.length), Bool.true_and, ← dec5x] at q
    exact q
  · rw [decide_eq_false (by omega : ¬ 1 ≤ z.length), Bool.false_and] at q
    exact q
def isTx : T → Bool
  | .str z => z.cps.toList.all isLb
  | _ => false
theorem m_textX {d : Nat} {t : T} {Q : T → Prop} (h : Ve d t) (q : Q (.bl (isTx t))) : w_is_text [t] Q Xk := by
  cases h with
  | str h => exact m_is_text q
  | non => rw [u_is_text]; unfold b_is_text; exact q
  | bl b => rw [u_is_text]; unfold b_is_text; exact q
  | int i => rw [u_is_text]; unfold b_is_text; exact q
  | lst ts => rw [u_is_text]; unfold b_is_text; exact q
  | tup ts => rw [u_is_text]; unfold b_is_text; exact q
  | dic => rw [u_is_text]; unfold b_is_text; exact q
theorem m_wordX {d : Nat} {t : T} {Q : T → Prop} (h : Ve d t) (q : Q (.bl (isWx t))) : w_is_word [t] Q Xk := by
  rw [u_is_word]; unfold b_is_word
  refine m_textX h ?_
  cases h with
  | @str d z h =>
    have q : Q (.bl (z.cps.toList.all isLb && (decide (1 ≤ z.length) && decide (z.length ≤ 5)))) := q
    show If3 (z.cps.toList.all isLb) _ _
    cases hb : z.cps.toList.all isLb with
    | false => rw [hb] at q; exact q
    | true => rw [hb, Bool.true_and] at q; exact ch5 q
  | _ => exact q
def goalB (m : Nat) : T → Bool
  | .int i => decide (0 ≤ i) && decide (i < (m : Nat))
  | _ => false
def ansB : T → Bool
  | .non => true
  | t => isWx t
def rowB (m : Nat) : T → Bool
  | .tup [a, .tup gs] => ansB a && (decide (gs.length = 26) && gs.all (goalB m))
  | _ => false
def wrongL (m : Nat) : Nat → List T → T
  | _, [] => .non
  | i, x :: xs => if rowB m x = true then wrongL m (i + 1) xs else .int (i : Nat)
def wrongT : T → T
  | .tup [] => .int 0
  | .tup (x :: xs) => wrongL (xs.length + 1) 0 (x :: xs)
  | _ => .int 0
end G69
namespace G69
open PySem PySem.Spec PyProof.Rows L2
/-! ### rows of machines, the dicts of their targets, the edges -/
abbrev Rr := T × List Nat
def natT (j : Nat) : T := .int (j : Nat)
def kI (j : Nat) : Key := .inl (j : Nat)
def rowR (r : Rr) : T := .tup [r.1, .tup (r.2.map natT)]
def Aw (a : T) : Prop := a = .non ∨ ∃ z, a = .str z
def neA : T → T → Bool
  | .non, .non => false
  | .str a, .str b => !decide (a = b)
  | _, _ => true
theorem f_neA {a b : T} {P : T → Prop} (ha : Aw a) (hb : Aw b) (q : P (.bl (neA a b))) : fNe a b P := by
  rcases ha with rfl | ⟨z, rfl⟩ <;> rcases hb with rfl | ⟨y, rfl⟩ <;> exact q
theorem neA_comm {a b : T} (ha : Aw a) (hb : Aw b) : neA a b = neA b a := by
  have sy : ∀ z y : Str, (!decide (z = y)) = !decide (y = z) := fun z y => by
    by_cases h : z = y
    · subst h; rfl
    · rw [decide_eq_false h, decide_eq_false fun e => h e.symm]
  rcases ha with rfl | ⟨z, rfl⟩ <;> rcases hb with rfl | ⟨y, rfl⟩ <;> first | rfl | exact sy _ _
theorem f_intb {b : Bool} {P : T → Prop} (q : P (.int (if b then 1 else 0))) : fIntS [.bl b] P := by
  unfold fIntS
  exact q
structure RsOk (rs : List Rr) : Prop where
  an : ∀ r ∈ rs, Aw r.1
  gl : ∀ r ∈ rs, ∀ j ∈ r.2, j < rs.length
  n26 : ∀ r ∈ rs, r.2.length = 26
  few : rs.length ≤ 1000
theorem ndT_nats (l : List Nat) : ndTs (l.map natT) = true := ndTs_all fun t h => by
  obtain ⟨j, _, rfl⟩ := List.mem_map.mp h
  rfl
theorem ndT_aw {a : T} (h : Aw a) : ndT a = true := by
  rcases h with rfl | ⟨z, rfl⟩ <;> rfl
theorem ndT_row {r : Rr} (h : Aw r.1) : ndT (rowR r) = true := by
  show (ndT r.1 && (ndTs (r.2.map natT) && true)) = true
  rw [ndT_aw h, ndT_nats]
  rfl
theorem ndT_rows {rs : List Rr} (ok : RsOk rs) : ndT (.tup (rs.map rowR)) = true := ndTs_all fun t h => by
  obtain ⟨r, hr, rfl⟩ := List.mem_map.mp h
  exact ndT_row (ok.an r hr)
theorem map_at {α : Type} {f : α → T} {l : List α} {i : Nat} {t : T} (h : (l.map f)[i]? = some t) : ∃ x, l[i]? = some x ∧ t = f x := by
  rw [List.getElem?_map] at h
  cases e : l[i]? with
  | none => rw [e] at h; cases h
  | some x => rw [e] at h; cases h; exact ⟨x, rfl, rfl⟩
theorem zipT_inv {ts us : List T} {i : Nat} {t : T} (h : (zipT ts us)[i]? = some t) : ∃ a b, ts[i]? = some a ∧ us[i]? = some b ∧ t = .tup [a, b] := by
  obtain ⟨p, hp, rfl⟩ := map_at h
  rw [List.getElem?_zip_eq_some] at hp
  exact ⟨p.1, p.2, hp.1, hp.2, rfl⟩
/-- the dict of a row's targets -/
def Gd (gs : List Nat) (d : T) : Prop := ∃ (js : List Nat) (ts : List T), d = .dic (js.map kI) ts ∧ js.length = ts.length ∧ js.length ≤ 26 ∧ ndTs ts = true ∧ ∀ j, j ∈ js ↔ j ∈ gs
theorem kI_mem {js : List Nat} {j : Nat} : hasK (js.map kI) (kI j) = true ↔ j ∈ js := by
  rw [hasK_mem, List.mem_map]
  constructor
  · rintro ⟨i, hi, e⟩
    have e : (Sum.inl (i : Int) : Key) = Sum.inl (j : Int) := e
    have : (i : Int) = j := Sum.inl.inj e
    have : i = j := by omega
    exact this ▸ hi
  · exact fun h => ⟨j, h, rfl⟩
theorem abc_sg : (sgns "abcdefghijklmnopqrstuvwxyz").length = 26 := by decide +kernel
theorem take_succ_mem {l : List Nat} {i j x : Nat} (h : l[i]? = some j) : x ∈ l.take (i + 1) ↔ x ∈ l.take i ∨ x = j := by
  rw [List.take_succ, h, List.mem_append]
  exact or_congr Iff.rfl List.mem_singleton
theorem sgn_nd {z : Str} {t : T} {i : Nat} (h : (sgns z)[i]? = some t) : ndT t = true := by
  obtain ⟨c, _, rfl⟩ := map_at h
  rfl
theorem ndTs_app {a b : List T} (ha : ndTs a = true) (hb : ndTs b = true) : ndTs (a ++ b) = true := ndTs_all fun t h => (List.mem_append.mp h).elim (ndTs_mem ha t) (ndTs_mem hb t)
theorem m_goals_of {rs : List Rr} (ok : RsOk rs) {Q : T → Prop} (q : ∀ ds : List T, ds.length = rs.length → (∀ (k : Nat) (r : Rr) (d : T), rs[k]? = some r → ds[k]? = some d → Gd r.2 d) → Q (.lst ds)) : w_goals_of [.tup (rs.map rowR)] Q Xk := by
  rw [u_goals_of]; unfold b_goals_of
  refine for_inv (rs.map rowR) [.sh (.tup (rs.map rowR)), .ow (.lst []), .no, .no, .no, .no, .no]
    (fun i st => ∃ ds y2 y3 y4 y5 y6, ds.length = i ∧ (∀ (k : Nat) (r : Rr) (d : T), rs[k]? = some r → ds[k]? = some d → Gd r.2 d) ∧ st = [.sh (.tup (rs.map rowR)), .ow (.lst ds), y2, y3, y4, y5, y6]) (fun P h => h) ⟨[], _, _, _, _, _, rfl, (fun k r d _ h => by cases h), rfl⟩ ?_ ?_
  · rintro i t st N ht ⟨ds, y2, y3, y4, y5, y6, hl, hd, rfl⟩ hN
    obtain ⟨r, hr, rfl⟩ := map_at ht
    have hrm := List.mem_of_getElem? hr
    have h26 := ok.n26 r hrm
    have hi : i < rs.length := (List.getElem?_eq_some_iff.mp hr).1
    have hf := ok.few
    refine for_inv (zipT (sgns "abcdefghijklmnopqrstuvwxyz") (r.2.map natT)) [.sh (.tup (rs.map rowR)), .ow (.lst ds), .sh r.1, .sh (.tup (r.2.map natT)), .ow (.dic [] []), y5, y6]
      (fun k st => ∃ js ts z5 z6, js.length = ts.length ∧ js.length ≤ k ∧ ndTs ts = true ∧ (∀ j, j ∈ js ↔ j ∈ r.2.take k) ∧ st = [.sh (.tup (rs.map rowR)), .ow (.lst ds), .sh r.1, .sh (.tup (r.2.map natT)), .ow (.dic (js.map kI) ts), z5, z6]) (fun P h => h) ⟨[], [], _, _, rfl, Nat.le_refl _, rfl, (fun j => by rw [List.take_zero]), rfl⟩ ?_ ?_
    · rintro k t st M ht ⟨js, ts, z5, z6, h1, h2, h3, h4, rfl⟩ hM
      obtain ⟨a, b, ha, hb, rfl⟩ := zipT_inv ht
      obtain ⟨j, hj, rfl⟩ := map_at hb
      have hk : k < 26 := by
        have := (List.getElem?_eq_some_iff.mp ha).1
        rw [abc_sg] at this
        exact this
      refine ⟨by rw [List.length_map]; omega, ?_⟩
      show If3 (hasK (js.map kI) (kI j)) _ _
      refine if3b (fun hh => ?_) fun hh => ?_
      · refine hM _ ⟨js, ts, _, _, h1, by omega, h3, fun x => ?_, rfl⟩
        rw [take_succ_mem hj, h4]
        refine ⟨.inl, fun h => h.elim id fun e => ?_⟩
        subst e
        exact (h4 x).mp (kI_mem.mp hh)
      · refine hM _ ⟨js ++ [j], ts ++ [a], _, _, by rw [List.length_append, List.length_append, h1]; rfl, by rw [List.length_append]; show _ + 1 ≤ _; omega, ndTs_app h3 (by show (ndT a && true) = true; rw [sgn_nd ha]; rfl), fun x => ?_, by rw [List.map_append]; rfl⟩
        rw [take_succ_mem hj, List.mem_append, h4, List.mem_singleton]
    · rintro st ⟨js, ts, z5, z6, h1, h2, h3, h4, rfl⟩
      rw [zipT_len, abc_sg, List.length_map, h26] at h2 h4
      have h4 : ∀ j, j ∈ js ↔ j ∈ r.2 := fun j => by rw [h4 j, List.take_of_length_le (by rw [h26]; decide)]
      refine ⟨by omega, hN _ ⟨ds ++ [.dic (js.map kI) ts], _, _, _, _, _, by rw [List.length_append]; show _ + 1 = _; omega, fun k r' d hk hdk => ?_, rfl⟩⟩
      by_cases hlt : k < ds.length
      · rw [List.getElem?_append_left hlt] at hdk
        exact hd k r' d hk hdk
      · have hke : k = i := by
          have := (List.getElem?_eq_some_iff.mp hdk).1
          rw [List.length_append] at this
          have this : k < ds.length + 1 := this
          omega
        subst hke
        rw [hr] at hk
        cases hk
        rw [← hl, List.getElem?_append_right (Nat.le_refl _), Nat.sub_self] at hdk
        cases hdk
        exact ⟨js, ts, rfl, h1, h2, h3, h4⟩
  · rintro st ⟨ds, y2, y3, y4, y5, y6, hl, hd, rfl⟩
    rw [List.length_map] at hl
    exact q ds hl hd
/-- a comprehension over a dict's items -/
theorem lcI_on {α β : Type} {i : Nat} {g : TG3} {te : TE3} {vs : List Nat} {s : S3} {Q : T → S3 → Prop} {ks : List Key} {ts : List T} (h : α → T) (f : α → β) (k : β → T) (l : List α) (s0 : S3) {w0 : S3} (hs : s[i]? = some (.sh (.dic ks ts))) (hk : ks.length ≤ 1000000) (hk2 : ks.all kOk = true) (hn : ndTs ts = true) (hh : hideD s = s0) (hl : itmT ks ts = l.map h)
    (H : ∀ x ∈ l, ∀ R : T → S3 → Prop, (∀ s', wipe3 s' vs = w0 → R (k (f x)) s') → g (h x) w0 fun s2 => te s2 fun y s4 => R y s4)
    (q : Q (.lst ((l.map f).map k)) s0) (hw : wipe3 s0 vs = w0 := by first | (simp only [wipe3, List.set_cons_zero, List.set_cons_succ]; done) | (simp only [wipe3, List.set_cons_zero, List.set_cons_succ]; rfl) | rfl) (hb : back3 s0 s0 vs = s0 := by rfl) : tLcI i g tYes3 te vs s Q := by
  rw [u_tLcI]
  simp only [hs]
  refine ⟨⟨hk, hk2, hn⟩, ?_⟩
  rw [hh, hl]
  refine lcW_acc h f k w0 hw H fun x => ?_
  show Q _ (back3 s0 (put3 w0 x vs) vs)
  rw [back_put hw hb]
  exact q
def cI (a b : T) : Int := if neA a b then 1 else 0
def edgT (b : T) (rs : List Rr) (p : Nat × T) : T := .tup [.int (cI ((rs[p.1]?.map (·.1)).getD .non) b), natT p.1, p.2]
/-- the edges of a row -/
def Eg (rs : List Rr) (r : Rr) (e : T) : Prop := ∃ l : List (Nat × T), e = .lst (l.map (edgT r.1 rs)) ∧ (∀ j, (∃ t, (j, t) ∈ l) ↔ j ∈ r.2) ∧ l.length ≤ 26 ∧ ∀ p ∈ l, ndT p.2 = true
theorem eg_nd {rs : List Rr} {r : Rr} {e : T} (h : Eg rs r e) : ndT e = true := by
  obtain ⟨l, rfl, _, _, hn⟩ := h
  refine ndTs_all fun t ht => ?_
  obtain ⟨p, hp, rfl⟩ := List.mem_map.mp ht
  show (true && (true && (ndT p.2 && true))) = true
  rw [hn p hp]
  rfl
theorem itm_zip : ∀ (js : List Nat) (ts : List T), itmT (js.map kI) ts = (js.zip ts).map fun p => T.tup [natT p.1, p.2]
  | [], _ => rfl
  | _ :: _, [] => rfl
  | j :: js, t :: ts => by
    have := itm_zip js ts
    unfold itmT at this ⊢
    rw [List.map_cons, List.zip_cons_cons, List.zip_cons_cons, List.map_cons, List.map_cons, this]
    rfl
theorem kOk_all (js : List Nat) : (js.map kI).all kOk = true := by
  rw [List.all_eq_true]
  intro k hk
  obtain ⟨j, _, rfl⟩ := List.mem_map.mp hk
  rfl
theorem zip_fstm {js : List Nat} {ts : List T} (h : js.length = ts.length) (j : Nat) : (∃ t, (j, t) ∈ js.zip ts) ↔ j ∈ js := by
  constructor
  · rintro ⟨t, ht⟩
    exact (List.of_mem_zip ht).1
  · intro hj
    obtain ⟨i, hi, e⟩ := List.getElem_of_mem hj
    refine ⟨ts[i]'(by omega), List.mem_iff_getElem.mpr ⟨i, by rw [List.length_zip]; omega, ?_⟩⟩
    rw [List.getElem_zip, e]
theorem m_edges_of {rs : List Rr} (ok : RsOk rs) {Q : T → Prop} (q : ∀ es : List T, es.length = rs.length → (∀ (k : Nat) (r : Rr) (e : T), rs[k]? = some r → es[k]? = some e → Eg rs r e) → Q (.lst es)) : w_edges_of [.tup (rs.map rowR)] Q Xk := by
  rw [u_edges_of]; unfold b_edges_of
  refine for_any ?_
  refine m_goals_of ok fun ds hdl hds => ?_
  refine forW_inv (fun i st => ∃ es y2 y3 y4, es.length = i ∧ (∀ (k : Nat) (r : Rr) (e : T), rs[k]? = some r → es[k]? = some e → Eg rs r e) ∧ st = [.sh (.tup (rs.map rowR)), .ow (.lst es), y2, y3, y4, .no, .no]) ⟨[], _, _, _, rfl, (fun k r d _ h => by cases h), rfl⟩ ?_ ?_
  · rintro i t st N ht ⟨es, y2, y3, y4, hl, he, rfl⟩ hN
    obtain ⟨a, b, ha, hb, rfl⟩ := zipT_inv ht
    obtain ⟨r, hr, rfl⟩ := map_at ha
    have hrm := List.mem_of_getElem? hr
    have hi : i < rs.length := (List.getElem?_eq_some_iff.mp hr).1
    have hf := ok.few
    obtain ⟨a0, gs0⟩ := r
    obtain ⟨js, ts, rfl, h1, h2, h3, h4⟩ := hds i (a0, gs0) b hr hb
    have hnd : ndTs es = true := ndTs_all fun e hm => by
      obtain ⟨k, hk, rfl⟩ := List.getElem_of_mem hm
      exact eg_nd (he k (rs[k]'(by omega)) _ (List.getElem?_eq_getElem (by omega)) (List.getElem?_eq_getElem hk))
    refine lcI_on (i := 4) (ks := js.map kI) (ts := ts) (fun p : Nat × T => T.tup [natT p.1, p.2]) (fun p => p) (edgT a0 rs) (js.zip ts) [.sh (.tup (rs.map rowR)), .ow (.lst es), .sh a0, .sh (.tup (gs0.map natT)), .no, .no, .no] rfl (by rw [List.length_map]; omega) (kOk_all js) h3 ?_ (itm_zip js ts) (fun p hp R hR => ?_) ?_
    · show [hide1 (.sh (.tup (rs.map rowR))), hide1 (.ow (.lst es)), hide1 (.sh a0), hide1 (.sh (.tup (gs0.map natT))), .no, .no, .no] = _
      rw [hide_sh (ndT_rows ok), hide_ow (show ndT (.lst es) = true from hnd), hide_sh (ndT_aw (ok.an _ hrm : Aw a0)), hide_sh (show ndT (.tup (gs0.map natT)) = true from ndT_nats gs0)]
    · obtain ⟨j, u⟩ := p
      have hj : j ∈ gs0 := (h4 j).mp (List.of_mem_zip hp).1
      have hjl := ok.gl _ hrm j hj
      have hg : rs[j]? = some rs[j] := List.getElem?_eq_getElem hjl
      have done := hR [.sh (.tup (rs.map rowR)), .ow (.lst es), .sh a0, .sh (.tup (gs0.map natT)), .no, .sh (natT j), .sh u] rfl
      have done : R (.tup [.int (cI ((rs[j]?.map (·.1)).getD .non) a0), natT j, u]) _ := done
      rw [hg] at done
      have hb0 := ok.an _ (List.getElem_mem hjl)
      have ha0 : Aw a0 := ok.an _ hrm
      have hgr : (rs.map rowR)[j]? = some (rowR rs[j]) := by rw [List.getElem?_map, hg]; rfl
      generalize rs[j] = rj at hgr done hb0
      obtain ⟨b0, gs1⟩ := rj
      have done : R (.tup [.int (cI b0 a0), natT j, u]) _ := done
      have hb0 : Aw b0 := hb0
      refine ⟨rowR (b0, gs1), atI_nat hgr, b0, rfl, ?_⟩
      rcases hb0 with rfl | ⟨z, rfl⟩ <;> rcases ha0 with rfl | ⟨y, rfl⟩ <;> (refine f_intb ?_; exact done)
    · rw [List.map_id']
      refine ⟨by omega, hN _ ⟨es ++ [.lst ((js.zip ts).map (edgT a0 rs))], _, _, _, by rw [List.length_append]; show _ + 1 = _; omega, fun k r' e hk hek => ?_, rfl⟩⟩
      by_cases hlt : k < es.length
      · rw [List.getElem?_append_left hlt] at hek
        exact he k r' e hk hek
      · have hke : k = i := by
          have := (List.getElem?_eq_some_iff.mp hek).1
          rw [List.length_append] at this
          have this : k < es.length + 1 := this
          omega
        subst hke
        rw [hr] at hk
        cases hk
        rw [← hl, List.getElem?_append_right (Nat.le_refl _), Nat.sub_self] at hek
        cases hek
        refine ⟨js.zip ts, rfl, fun j => by rw [zip_fstm h1, h4], by rw [List.length_zip]; omega, fun p hp => ndTs_mem h3 p.2 (List.of_mem_zip (a := p.1) (b := p.2) hp).2⟩
  · rintro st ⟨es, y2, y3, y4, hl, he, rfl⟩
    rw [zipT_len, List.length_map, hdl, Nat.min_self] at hl
    exact q es hl he
end G69
namespace G69
open PySem PySem.Spec PyProof.Rows L2
/-! ### worths that show a fraction: by the program and by the law -/
def isI : T → Bool
  | .int _ => true
  | _ => false
theorem m_isI {d : Nat} {x : T} {Q : T → Prop} (h : Ve d x) (q : Q (.bl (isI x))) : w_is_integer [x] Q Xk := by
  cases h with
  | non => exact m_is_integer (b := false) (c := false) rfl rfl q
  | bl x => exact m_is_integer (b := true) (c := true) rfl rfl q
  | int h => exact m_int q
  | str h => exact m_is_integer (b := false) (c := false) rfl rfl q
  | lst h => exact m_is_integer (b := false) (c := false) rfl rfl q
  | tup h => exact m_is_integer (b := false) (c := false) rfl rfl q
  | dic => exact m_is_integer (b := false) (c := false) rfl rfl q
theorem all_ints : ∀ {ts : List T}, ts.all isI = true → ∃ ws : List Int, ts = ws.map T.int
  | [], _ => ⟨[], rfl⟩
  | t :: ts, h => by
    rw [List.all_cons, Bool.and_eq_true] at h
    obtain ⟨ws, rfl⟩ := all_ints h.2
    cases t with
    | int i => exact ⟨i :: ws, rfl⟩
    | _ => exact absurd h.1 Bool.false_ne_true
def anN (rs : List Rr) (j : Nat) : T := (rs[j]?.map (·.1)).getD .non
def wN (ws : List Int) (j : Nat) : Int := ws.getD j 0
/-- a step that does more than the worths allow -/
def badS (rs : List Rr) (ws : List Int) (p q : Int) (i j : Nat) : Bool := decide (wN ws i - wN ws j < q * cI (anN rs j) (anN rs i) - p)
def badR (rs : List Rr) (ws : List Int) (p q : Int) (i : Nat) : Bool := match rs[i]? with
  | some r => r.2.any (badS rs ws p q i)
  | none => false
def okW (rs : List Rr) (ws : List Int) (p q : Int) : Bool := (List.range rs.length).all fun i => !badR rs ws p q i
def okB (rs : List Rr) (p q : Int) : T → Bool
  | .tup ts => decide (ts.length = rs.length) && (ts.all isI && (match ints? ts with
    | some ws => okW rs ws p q
    | none => false))
  | _ => false
theorem okW_no {rs : List Rr} {ws : List Int} {p q : Int} {i : Nat} (hi : i < rs.length) (h : badR rs ws p q i = true) : okW rs ws p q = false := by
  unfold okW
  rw [List.all_eq_false]
  exact ⟨i, List.mem_range.mpr hi, by rw [h]; decide⟩
theorem okW_yes {rs : List Rr} {ws : List Int} {p q : Int} (h : ∀ i < rs.length, badR rs ws p q i = false) : okW rs ws p q = true := by
  unfold okW
  rw [List.all_eq_true]
  intro i hi
  rw [h i (List.mem_range.mp hi)]
  rfl
theorem anN_at {rs : List Rr} {i : Nat} {r : Rr} (h : rs[i]? = some r) : anN rs i = r.1 := by
  unfold anN
  rw [h]
  rfl
theorem wN_at {ws : List Int} {i : Nat} {w : Int} (h : ws[i]? = some w) : wN ws i = w := by
  unfold wN
  rw [List.getD_eq_getElem?_getD, h]
  rfl
theorem badR_at {rs : List Rr} {ws : List Int} {p q : Int} {i : Nat} {r : Rr} (h : rs[i]? = some r) : badR rs ws p q i = r.2.any (badS rs ws p q i) := by
  unfold badR
  rw [h]
theorem cI_comm {a b : T} (ha : Aw a) (hb : Aw b) : cI a b = cI b a := by
  unfold cI
  rw [neA_comm ha hb]
theorem cm_cI {q : Int} {a b : T} : CMul q (cI a b) := .inr (by unfold cI; cases neA a b <;> decide)
theorem wt_lenT (ts : List T) (h : wt (.tup ts) ≤ 100000) : ts.length ≤ 100000 := Nat.le_trans (wts_len ts) h
theorem m_p_rows {t : T} {Q : T → Prop} (q : Q t) : w_Machine_rows [.ins 3 [t]] Q Xk := by
  rw [u_Machine_rows]; unfold b_Machine_rows
  exact q
theorem m_len {ts : List T} {Q : T → Prop} (q : Q (.int (ts.length : Nat))) : w_Machine__len_ [.ins 3 [.tup ts]] Q Xk := by
  rw [u_Machine__len_]; unfold b_Machine__len_
  exact q
def badPQ (x y : T) : Bool := match x, y with
  | .int p, .int q => decide (p < 0) || decide (q < 1)
  | _, _ => true
/-- behind the test of the fraction -/
theorem m_shows {rs : List Rr} (ok : RsOk rs) {d e1 e2 : Nat} {x y t : T} (hx : Ve e1 x) (hy : Ve e2 y) (ht : Ve d t) (hz : wt t ≤ 100000) {Q : T → Prop} {E : XK3} (q1 : ∀ p q : Int, x = .int p → y = .int q → 0 ≤ p → 1 ≤ q → Q (.bl (okB rs p q t))) (q2 : badPQ x y = true → E 9 []) :
    w_shows_rate [.ins 3 [.tup (rs.map rowR)], x, y, t] Q E := by
  rw [u_shows_rate]; unfold b_shows_rate
  refine m_isI hx ?_
  have hf := ok.few
  cases hx with
  | non => exact q2 rfl
  | bl x => exact q2 rfl
  | str h => exact q2 rfl
  | lst h => exact q2 rfl
  | tup h => exact q2 rfl
  | dic => exact q2 rfl
  | @int _ p _ =>
  refine m_isI hy ?_
  cases hy with
  | non => exact q2 rfl
  | bl x => exact q2 rfl
  | str h => exact q2 rfl
  | lst h => exact q2 rfl
  | tup h => exact q2 rfl
  | dic => exact q2 rfl
  | @int _ q _ =>
  show If3 (decide (p < 0)) _ _
  refine if3 (fun h => q2 (by show (decide (p < 0) || _) = true; rw [decide_eq_true h]; rfl)) fun hp => ?_
  show If3 (decide (q < 1)) _ _
  refine if3 (fun h => q2 (by show (_ || decide (q < 1)) = true; rw [decide_eq_true h, Bool.or_true])) fun hq => ?_
  have q1 := q1 p q rfl rfl (by omega) (by omega)
  clear q2
  cases ht with
  | non => exact q1
  | bl x => exact q1
  | str h => exact q1
  | lst h => exact q1
  | int h => exact q1
  | dic => exact q1
  | @tup d ts hts =>
  have hl := wt_lenT ts hz
  have q1 : Q (.bl (decide (ts.length = rs.length) && (ts.all isI && (match ints? ts with
    | some ws => okW rs ws p q
    | none => false)))) := q1
  refine m_len ⟨⟨by omega, by rw [List.length_map]; omega⟩, ?_⟩
  show If3 (!decide (((ts.length : Nat) : Int) = (((rs.map rowR).length : Nat) : Int))) _ _
  rw [List.length_map]
  refine if3n (fun hn => ?_) fun he => ?_
  · rw [decide_eq_false fun h => hn (by rw [h]), Bool.false_and] at q1
    exact q1
  have he : ts.length = rs.length := by omega
  rw [decide_eq_true he, Bool.true_and] at q1
  refine lc_on (fun t => t) isI T.bl ts [.sh (.ins 3 [.tup (rs.map rowR)]), .sh (.int p), .sh (.int q), .sh (.tup ts), .no, .no, .no, .no, .no] (fun P h => by rw [List.map_id'] at h; exact h) (fun u hu R hR => ?_) ?_
  · exact m_isI (hts u hu) (hR [.sh (.ins 3 [.tup (rs.map rowR)]), .sh (.int p), .sh (.int q), .sh (.tup ts), .sh u, .no, .no, .no, .no] rfl)
  conv => whnf
  rw [bls?_map]
  conv => whnf
  rw [show (ts.map isI).all id = ts.all isI by rw [List.all_map]; rfl]
  cases hall : ts.all isI with
  | false =>
    rw [hall, Bool.false_and] at q1
    exact q1
  | true =>
  rw [hall, Bool.true_and] at q1
  obtain ⟨ws, rfl⟩ := all_ints hall
  rw [ints?_map] at q1
  have q1 : Q (.bl (okW rs ws p q)) := q1
  rw [List.length_map] at he hl
  refine for_any ?_
  refine m_p_rows ?_
  refine m_edges_of ok fun es hel hes => ?_
  refine forW_inv (fun i st => ∃ y4 y5, (∀ k < i, badR rs ws p q k = false) ∧ st = [.sh (.ins 3 [.tup (rs.map rowR)]), .sh (.int p), .sh (.int q), .sh (.tup (ws.map T.int)), y4, y5, .no, .no, .no]) ⟨_, _, (fun k hk => absurd hk (Nat.not_lt_zero k)), rfl⟩ ?_ ?_
  · rintro i t st N ht ⟨y4, y5, hb, rfl⟩ hN
    obtain ⟨a, b, ha, hbb, rfl⟩ := zipT_inv ht
    obtain ⟨w, hw, rfl⟩ := map_at ha
    have hi : i < rs.length := by
      have := (List.getElem?_eq_some_iff.mp hw).1
      omega
    have hr : rs[i]? = some rs[i] := List.getElem?_eq_getElem hi
    obtain ⟨l, rfl, hl1, hl2, hl3⟩ := hes i rs[i] b hr hbb
    have hrm := List.getElem_mem hi
    refine lc_on (edgT rs[i].1 rs) (fun p2 => badS rs ws p q i p2.1) T.bl l [.sh (.ins 3 [.tup (rs.map rowR)]), .sh (.int p), .sh (.int q), .sh (.tup (ws.map T.int)), .sh (.int w), .sh (.lst (l.map (edgT rs[i].1 rs))), .no, .no, .no] (fun P h => h) (fun u hu R hR => ?_) ?_
    · obtain ⟨j, u⟩ := u
      have hj : j ∈ rs[i].2 := (hl1 j).mp ⟨u, hu⟩
      have hjl := ok.gl _ hrm j hj
      have hjw : ws[j]? = some (ws[j]'(by omega)) := List.getElem?_eq_getElem (by omega)
      have done := hR [.sh (.ins 3 [.tup (rs.map rowR)]), .sh (.int p), .sh (.int q), .sh (.tup (ws.map T.int)), .sh (.int w), .sh (.lst (l.map (edgT rs[i].1 rs))), .sh (.int (cI (anN rs j) rs[i].1)), .sh (natT j), .sh u] rfl
      have e : badS rs ws p q i j = decide (w - (ws[j]'(by omega)) < q * cI (anN rs j) rs[i].1 - p) := by
        unfold badS
        rw [wN_at hw, wN_at hjw, anN_at hr]
      dsimp only at done
      rw [e] at done
      refine ⟨cm_cI, ?_⟩
      exact ⟨.int (ws[j]'(by omega)), atI_nat (by rw [List.getElem?_map, hjw]; rfl), done⟩
    · conv => whnf
      rw [bls?_map]
      conv => whnf
      have e : (l.map fun p2 => badS rs ws p q i p2.1).any id = badR rs ws p q i := by
        rw [badR_at hr, List.any_map, Bool.eq_iff_iff, List.any_eq_true, List.any_eq_true]
        constructor
        · rintro ⟨⟨j, u⟩, hm, hb2⟩
          exact ⟨j, (hl1 j).mp ⟨u, hm⟩, hb2⟩
        · rintro ⟨j, hj, hb2⟩
          obtain ⟨u, hu⟩ := (hl1 j).mpr hj
          exact ⟨(j, u), hu, hb2⟩
      rw [e]
      cases hbi : badR rs ws p q i with
      | true =>
        rw [okW_no hi hbi] at q1
        exact q1
      | false =>
        refine hN _ ⟨_, _, fun k hk => ?_, rfl⟩
        by_cases h : k < i
        · exact hb k h
        · have : k = i := by omega
          rw [this]
          exact hbi
  · rintro st ⟨y4, y5, hb, rfl⟩
    rw [zipT_len, List.length_map, hel, he, Nat.min_self] at hb
    rw [okW_yes hb] at q1
    exact q1
end G69
namespace G69
open PySem PySem.Spec PyProof.Rows L2
theorem asg_neA {ta tb : TE3} {a b : T} (ha : Aw a) (hb : Aw b) {i : Nat} {s : S3} {rest : TS3} {D : Ends3} {x : Sl} (h1 : ∀ P : K3, P a s → ta s P) (h2 : ∀ P : K3, P b s → tb s P) (hs : s[i]? = some x) (q : rest D (s.set i (.sh (.int (cI a b))))) :
    sSeq (sAsg (tN fIntS (aCons (tBin fNe ta tb) aNil)) (gN i)) rest D s := by
  show ta s _
  refine h1 _ ?_
  show tb s _
  refine h2 _ ?_
  have fin : ∀ c : Bool, (if c then (1 : Int) else 0) = cI a b → fIntS [.bl c] fun t => gN i t s fun s2 => rest D s2 := fun c hc => f_intb (by
    rw [hc]
    show (match s[i]? with
      | some _ => rest D (s.set i (.sh (.int (cI a b))))
      | none => False)
    rw [hs]
    exact q)
  rcases ha with rfl | ⟨z, rfl⟩ <;> rcases hb with rfl | ⟨y, rfl⟩ <;> exact fin _ rfl
theorem m_due {rs : List Rr} (ok : RsOk rs) {d : Nat} {t : T} {p q : Int} (ht : Ve d t) (hz : wt t ≤ 100000) {Q : T → Prop} (q1 : Q (.bl (okB rs p q t))) : w_L_due [.tup (rs.map rowR), .int p, .int q, t] Q Xk := by
  rw [u_L_due]; unfold b_L_due
  have hf := ok.few
  cases ht with
  | non => exact q1
  | bl x => exact q1
  | str h => exact q1
  | lst h => exact q1
  | int h => exact q1
  | dic => exact q1
  | @tup d ts hts =>
  have hl := wt_lenT ts hz
  have q1 : Q (.bl (decide (ts.length = rs.length) && (ts.all isI && (match ints? ts with
    | some ws => okW rs ws p q
    | none => false)))) := q1
  show If3 (!decide (((ts.length : Nat) : Int) = (((rs.map rowR).length : Nat) : Int))) _ _
  rw [List.length_map]
  refine if3n (fun hn => ?_) fun he => ?_
  · rw [decide_eq_false fun h => hn (by rw [h]), Bool.false_and] at q1
    exact q1
  have he : ts.length = rs.length := by omega
  rw [decide_eq_true he, Bool.true_and] at q1
  refine lc_fil (fun t => t) (fun x => !isI x) (fun t => t) ts [.sh (.tup (rs.map rowR)), .sh (.int p), .sh (.int q), .sh (.tup ts), .no, .no, .no, .no] (fun P h => by rw [List.map_id'] at h; exact h) (fun u hu R hR => ?_) ?_
  · have done := hR [.sh (.tup (rs.map rowR)), .sh (.int p), .sh (.int q), .sh (.tup ts), .sh u, .no, .no, .no] rfl
    have hv := hts u hu
    cases hv with
    | non => exact done
    | bl x => exact done
    | str h => exact done
    | lst h => exact done
    | tup h => exact done
    | int h => exact done
    | dic => exact done
  show If3 (!(((ts.filter fun x => !isI x).map fun t => t).isEmpty)) _ _
  rw [fil_nil]
  cases hall : ts.all isI with
  | false =>
    rw [hall, Bool.false_and] at q1
    exact q1
  | true =>
  rw [hall, Bool.true_and] at q1
  obtain ⟨ws, rfl⟩ := all_ints hall
  rw [ints?_map] at q1
  have q1 : Q (.bl (okW rs ws p q)) := q1
  rw [List.length_map] at he hl
  refine for_inv (rngT 0 ((((rs.map rowR).length : Nat) : Int).toNat)) [.sh (.tup (rs.map rowR)), .sh (.int p), .sh (.int q), .sh (.tup (ws.map T.int)), .no, .no, .no, .no]
    (fun i st => ∃ y5 y6 y7, (∀ k < i, badR rs ws p q k = false) ∧ st = [.sh (.tup (rs.map rowR)), .sh (.int p), .sh (.int q), .sh (.tup (ws.map T.int)), .no, y5, y6, y7]) (fun P h => ⟨by rw [List.length_map]; omega, h⟩) ⟨_, _, _, (fun k hk => absurd hk (Nat.not_lt_zero k)), rfl⟩ ?_ ?_
  · rintro i t st N ht ⟨y5, y6, y7, hb, rfl⟩ hN
    obtain ⟨hi, rfl⟩ := rngT_inv ht
    have hi : i < rs.length := by rw [List.length_map] at hi; omega
    have hr : rs[i]? = some rs[i] := List.getElem?_eq_getElem hi
    have hrm := List.getElem_mem hi
    have hgr : (rs.map rowR)[i]? = some (rowR rs[i]) := by rw [List.getElem?_map, hr]; rfl
    have hw : ws[i]? = some (ws[i]'(by omega)) := List.getElem?_eq_getElem (by omega)
    have ha0 := ok.an _ hrm
    have hgl := ok.gl _ hrm
    generalize rs[i] = r at hr hrm hgr ha0 hgl
    generalize ws[i]'(by omega) = w at hw
    obtain ⟨a0, gs0⟩ := r
    have ha0 : Aw a0 := ha0
    have hgl : ∀ j ∈ gs0, j < rs.length := hgl
    refine for_inv (gs0.map natT) [.sh (.tup (rs.map rowR)), .sh (.int p), .sh (.int q), .sh (.tup (ws.map T.int)), .no, .sh (.int (i : Nat)), y6, y7]
      (fun n st => ∃ y6 y7, (∀ j ∈ gs0.take n, badS rs ws p q i j = false) ∧ st = [.sh (.tup (rs.map rowR)), .sh (.int p), .sh (.int q), .sh (.tup (ws.map T.int)), .no, .sh (.int (i : Nat)), y6, y7]) (fun P h => ⟨rowR (a0, gs0), atI_nat hgr, .tup (gs0.map natT), rfl, h⟩) ⟨_, _, (fun j hj => by rw [List.take_zero] at hj; cases hj), rfl⟩ ?_ ?_
    · rintro n t st M ht ⟨y6, y7, hb2, rfl⟩ hM
      obtain ⟨j, hj, rfl⟩ := map_at ht
      have hjl := hgl j (List.mem_of_getElem? hj)
      have hg : rs[j]? = some rs[j] := List.getElem?_eq_getElem hjl
      have hb0 := ok.an _ (List.getElem_mem hjl)
      have hgr2 : (rs.map rowR)[j]? = some (rowR rs[j]) := by rw [List.getElem?_map, hg]; rfl
      have hwj : ws[j]? = some (ws[j]'(by omega)) := List.getElem?_eq_getElem (by omega)
      generalize rs[j] = rj at hg hb0 hgr2
      generalize ws[j]'(by omega) = wj at hwj
      obtain ⟨b0, gs1⟩ := rj
      have hb0 : Aw b0 := hb0
      have e : badS rs ws p q i j = decide (w - wj < q * cI a0 b0 - p) := by
        unfold badS
        rw [wN_at hw, wN_at hwj, anN_at hr, anN_at hg, cI_comm hb0 ha0]
      show sSeq (sAsg (tN fIntS (aCons (tBin fNe _ _) aNil)) (gN 7)) _ _ [.sh (.tup (rs.map rowR)), .sh (.int p), .sh (.int q), .sh (.tup (ws.map T.int)), .no, .sh (.int (i : Nat)), .sh (natT j), y7]
      refine asg_neA ha0 hb0 (fun P h => ⟨rowR (a0, gs0), atI_nat hgr, a0, rfl, h⟩) (fun P h => ⟨rowR (b0, gs1), atI_nat hgr2, b0, rfl, h⟩) rfl ?_
      refine ⟨.int w, atI_nat (by rw [List.getElem?_map, hw]; rfl), .int wj, atI_nat (by rw [List.getElem?_map, hwj]; rfl), cm_cI, ?_⟩
      show If3 (decide (w - wj < q * cI a0 b0 - p)) _ _
      rw [← e]
      cases hbi : badS rs ws p q i j with
      | true =>
        have hbr : badR rs ws p q i = true := by
          rw [badR_at hr, List.any_eq_true]
          exact ⟨j, List.mem_of_getElem? hj, hbi⟩
        rw [okW_no hi hbr] at q1
        exact q1
      | false =>
        refine hM _ ⟨_, _, fun x hx => ?_, rfl⟩
        rcases (take_succ_mem hj).mp hx with h | h
        · exact hb2 x h
        · rw [h]; exact hbi
    · rintro st ⟨y6, y7, hb2, rfl⟩
      rw [List.length_map, List.take_length] at hb2
      refine hN _ ⟨_, _, _, fun k hk => ?_, rfl⟩
      by_cases h : k < i
      · exact hb k h
      · have : k = i := by omega
        subst this
        rw [badR_at hr, List.any_eq_false]
        intro j hj
        rw [hb2 j hj]
        decide
  · rintro st ⟨y5, y6, y7, hb, rfl⟩
    rw [rngT_len, List.length_map] at hb
    rw [okW_yes fun k hk => hb k (by omega)] at q1
    exact q1
end G69
namespace G69
open PySem PySem.Spec PyProof.Rows L2
/-! ### drawn rows; worths raised row by row -/
theorem ixN_nat {n k : Nat} (h : k < n) : ixN n (k : Int) = some k := by
  unfold ixN
  simp [show ¬ (k : Int) < 0 by omega, h]
theorem f_sseti {gs : List Nat} {P : T → Prop} (h : gs.length < 64) (q : ∀ js : List Nat, (∀ j ∈ js, j ∈ gs) → js.length ≤ gs.length → P (.lst (js.map natT))) : fSseti (.tup (gs.map natT)) P := by
  unfold fSseti
  have e : gs.map natT = (gs.map fun j : Nat => (j : Int)).map T.int := by rw [List.map_map]; rfl
  dsimp only
  rw [e, ints?_map]
  refine ⟨by rw [List.length_map]; exact h, fun ys hy => ?_⟩
  have back : ∀ ys : List Int, (∀ y ∈ ys, y ∈ gs.map fun j : Nat => (j : Int)) → ∃ js : List Nat, ys = (js.map fun j : Nat => (j : Int)) ∧ ∀ j ∈ js, j ∈ gs := by
    intro ys
    induction ys with
    | nil => intro _; exact ⟨[], rfl, fun j h => by cases h⟩
    | cons y ys ih =>
      intro h
      obtain ⟨js, rfl, hj⟩ := ih fun z hz => h z (List.mem_cons_of_mem _ hz)
      obtain ⟨j, hjg, rfl⟩ := List.mem_map.mp (h y List.mem_cons_self)
      refine ⟨j :: js, rfl, fun x hx => ?_⟩
      rcases List.mem_cons.mp hx with rfl | hx
      · exact hjg
      · exact hj x hx
  obtain ⟨js, rfl, hj⟩ := back ys fun y hm => (hy.2 y).mp hm
  have hl := hy.1.2
  rw [List.length_map, List.length_map] at hl
  have := q js hj hl
  rw [List.map_map]
  exact this
theorem rep_zero : ∀ n : Nat, (List.replicate n [T.int 0]).flatten = (List.replicate n (0 : Int)).map T.int
  | 0 => rfl
  | n + 1 => by rw [List.replicate_succ, List.flatten_cons, rep_zero n, List.replicate_succ, List.map_cons]; rfl
def WB (ws : List Int) (B : Int) : Prop := ∀ w ∈ ws, 0 ≤ w ∧ w ≤ B
theorem WB.mono {ws : List Int} {B B' : Int} (h : WB ws B) (hb : B ≤ B') : WB ws B' := fun w hw => ⟨(h w hw).1, Int.le_trans (h w hw).2 hb⟩
theorem cI_01 (a b : T) : 0 ≤ cI a b ∧ cI a b ≤ 1 := by unfold cI; cases neA a b <;> decide
theorem m_worths {rs : List Rr} (ok : RsOk rs) (h5 : rs.length ≤ 5) {p q : Int} (hp : 0 ≤ p) (hq : 1 ≤ q) (hq5 : q ≤ 5) {Q : T → Prop} (q1 : ∀ ws : List Int, ws.length = rs.length → WB ws 10000 → Q (.tup (ws.map T.int))) : w_L_worths [.tup (rs.map rowR), .int p, .int q] Q Xk := by
  rw [u_L_worths]; unfold b_L_worths
  refine ⟨⟨by omega, by rw [List.length_map]; omega, szle (by rw [List.length_map]; show 1 * _ ≤ 1000000; omega)⟩, ?_⟩
  have e0 : (List.replicate ((((rs.map rowR).length : Nat) : Int).toNat) [T.int 0]).flatten = (List.replicate rs.length (0 : Int)).map T.int := by rw [List.length_map]; exact rep_zero _
  rw [e0]
  refine for_inv (rngT 0 ((((rs.map rowR).length : Nat) : Int) + 1).toNat) [.sh (.tup (rs.map rowR)), .sh (.int p), .sh (.int q), .ow (.lst ((List.replicate rs.length (0 : Int)).map T.int)), .no, .no, .no, .no]
    (fun i st => ∃ ws y4 y5 y6 y7, ws.length = rs.length ∧ WB ws (650 * (i : Nat)) ∧ st = [.sh (.tup (rs.map rowR)), .sh (.int p), .sh (.int q), .ow (.lst (ws.map T.int)), y4, y5, y6, y7]) (fun P h => ⟨by rw [List.length_map]; omega, h⟩) ⟨_, _, _, _, _, List.length_replicate, (fun w hw => by rw [(List.mem_replicate.mp hw).2]; decide), rfl⟩ ?_ ?_
  · rintro i0 t st N ht ⟨ws, y4, y5, y6, y7, hl, hB, rfl⟩ hN
    obtain ⟨_, rfl⟩ := rngT_inv ht
    refine for_inv (rngT 0 ((((rs.map rowR).length : Nat) : Int).toNat)) [.sh (.tup (rs.map rowR)), .sh (.int p), .sh (.int q), .ow (.lst (ws.map T.int)), .sh (.int (i0 : Nat)), y5, y6, y7]
      (fun i st => ∃ ws y5 y6 y7, ws.length = rs.length ∧ WB ws (650 * (i0 : Nat) + 130 * (i : Nat)) ∧ st = [.sh (.tup (rs.map rowR)), .sh (.int p), .sh (.int q), .ow (.lst (ws.map T.int)), .sh (.int (i0 : Nat)), y5, y6, y7]) (fun P h => ⟨by rw [List.length_map]; omega, h⟩) ⟨ws, _, _, _, hl, hB.mono (by omega), rfl⟩ ?_ ?_
    · rintro i t st M ht ⟨ws, y5, y6, y7, hl, hB, rfl⟩ hM
      obtain ⟨hi, rfl⟩ := rngT_inv ht
      have hi : i < rs.length := by rw [List.length_map] at hi; omega
      have hr : rs[i]? = some rs[i] := List.getElem?_eq_getElem hi
      have hrm := List.getElem_mem hi
      have hgr : (rs.map rowR)[i]? = some (rowR rs[i]) := by rw [List.getElem?_map, hr]; rfl
      have ha0 := ok.an _ hrm
      have hgl := ok.gl _ hrm
      have h26 := ok.n26 _ hrm
      generalize rs[i] = r at hr hrm hgr ha0 hgl h26
      obtain ⟨a0, gs0⟩ := r
      have ha0 : Aw a0 := ha0
      have hgl : ∀ j ∈ gs0, j < rs.length := hgl
      have h26 : gs0.length = 26 := h26
      refine for_any ?_
      refine ⟨rowR (a0, gs0), atI_nat hgr, .tup (gs0.map natT), rfl, ?_⟩
      refine f_sseti (by omega) fun js hjs hjl => ?_
      refine forW_inv (fun n st => ∃ ws y6 y7, ws.length = rs.length ∧ WB ws (650 * (i0 : Nat) + 130 * (i : Nat) + 5 * (n : Nat)) ∧ st = [.sh (.tup (rs.map rowR)), .sh (.int p), .sh (.int q), .ow (.lst (ws.map T.int)), .sh (.int (i0 : Nat)), .sh (.int (i : Nat)), y6, y7]) ⟨ws, _, _, hl, hB.mono (by omega), rfl⟩ ?_ ?_
      · rintro n t st L ht ⟨ws, y6, y7, hl, hB, rfl⟩ hL
        obtain ⟨j, hj, rfl⟩ := map_at ht
        have hjr := hgl j (hjs j (List.mem_of_getElem? hj))
        have hg : rs[j]? = some rs[j] := List.getElem?_eq_getElem hjr
        have hb0 := ok.an _ (List.getElem_mem hjr)
        have hgr2 : (rs.map rowR)[j]? = some (rowR rs[j]) := by rw [List.getElem?_map, hg]; rfl
        generalize rs[j] = rj at hg hb0 hgr2
        obtain ⟨b0, gs1⟩ := rj
        have hb0 : Aw b0 := hb0
        have hwi : ws[i]? = some (ws[i]'(by omega)) := List.getElem?_eq_getElem (by omega)
        have hwj : ws[j]? = some (ws[j]'(by omega)) := List.getElem?_eq_getElem (by omega)
        have bi := hB _ (List.getElem_mem (show i < ws.length by omega))
        have bj := hB _ (List.getElem_mem (show j < ws.length by omega))
        generalize ws[i]'(by omega) = w at hwi bi
        generalize ws[j]'(by omega) = wj at hwj bj
        obtain ⟨c0, c1⟩ := cI_01 a0 b0
        show sSeq (sAsg (tN fIntS (aCons (tBin fNe _ _) aNil)) (gN 7)) _ _ [.sh (.tup (rs.map rowR)), .sh (.int p), .sh (.int q), .ow (.lst (ws.map T.int)), .sh (.int (i0 : Nat)), .sh (.int (i : Nat)), .sh (natT j), y7]
        refine asg_neA ha0 hb0 (fun P h => ⟨rowR (a0, gs0), atI_nat hgr, a0, rfl, h⟩) (fun P h => ⟨rowR (b0, gs1), atI_nat hgr2, b0, rfl, h⟩) rfl ?_
        refine ⟨.int w, atI_nat (by rw [List.getElem?_map, hwi]; rfl), cm_cI, .int wj, atI_nat (by rw [List.getElem?_map, hwj]; rfl), ?_⟩
        refine ⟨i, ?_, ?_⟩
        · rw [List.length_map, hl]; exact ixN_nat hi
        · rw [← List.map_set]
          refine hL _ ⟨ws.set i (max w (q * cI a0 b0 - p + wj)), _, _, by rw [List.length_set]; exact hl, fun x hx => ?_, rfl⟩
          rcases List.mem_or_eq_of_mem_set hx with h | h
          · exact (hB.mono (by omega)) x h
          · subst h
            have hm : q * cI a0 b0 ≤ 5 := by
              have : cI a0 b0 = 0 ∨ cI a0 b0 = 1 := by omega
              rcases this with h | h <;> rw [h] <;> omega
            omega
      · rintro st ⟨ws, y6, y7, hl, hB, rfl⟩
        rw [List.length_map] at hB
        exact hM _ ⟨ws, _, _, _, hl, hB.mono (by omega), rfl⟩
    · rintro st ⟨ws, y5, y6, y7, hl, hB, rfl⟩
      rw [rngT_len, List.length_map] at hB
      exact hN _ ⟨ws, _, _, _, _, hl, hB.mono (by omega), rfl⟩
  · rintro st ⟨ws, y4, y5, y6, y7, hl, hB, rfl⟩
    rw [rngT_len, List.length_map] at hB
    exact q1 ws hl (hB.mono (by omega))
theorem m_mrows {m : Nat} (h1 : 1 ≤ m) (h5 : m ≤ 5) {Q : T → Prop} (q : ∀ rs : List Rr, rs.length = m → RsOk rs → (∀ r ∈ rs, r.1 = .non ∨ ∃ z, r.1 = .str z ∧ 1 ≤ z.length ∧ z.length ≤ 5 ∧ z.cps.toList.all isLb = true) → Q (.tup (rs.map rowR))) : w_L_machine_rows [.drw, .int (m : Nat)] Q Xk := by
  rw [u_L_machine_rows]; unfold b_L_machine_rows
  refine for_inv (rngT 0 ((m : Nat) : Int).toNat) [.sh .drw, .sh (.int (m : Nat)), .ow (.lst []), .no, .no, .no, .no, .no]
    (fun i st => ∃ (rs : List Rr) (y3 y4 y5 y6 : Sl), rs.length = i ∧ (∀ r ∈ rs, r.2.length = 26 ∧ (∀ j ∈ r.2, j < m) ∧ (r.1 = .non ∨ ∃ z, r.1 = .str z ∧ 1 ≤ z.length ∧ z.length ≤ 5 ∧ z.cps.toList.all isLb = true)) ∧ st = [.sh .drw, .sh (.int (m : Nat)), .ow (.lst (rs.map rowR)), y3, y4, y5, y6, .no]) (fun P h => ⟨by omega, h⟩) ⟨[], _, _, _, _, rfl, (fun r h => by cases h), rfl⟩ ?_ ?_
  · rintro i t st N ht ⟨rs, y3, y4, y5, y6, hl, hr, rfl⟩ hN
    obtain ⟨him, rfl⟩ := rngT_inv ht
    have him : i < m := by omega
    refine m_pick (by intro h; cases h) (by show 5 ≤ 1000000; decide) fun a ha => ?_
    refine ⟨⟨by omega, by omega⟩, tk_nat fun b hb => ?_⟩
    have hb : b < m := by omega
    refine lc_all (rngT 0 26) (fun t => ∃ j : Nat, t = natT j ∧ j < m) [.sh .drw, .sh (.int (m : Nat)), .ow (.lst (rs.map rowR)), .sh (.int (i : Nat)), .sh a, .sh (.int (b : Nat)), y6, .no] (fun R h => ⟨by decide, h⟩) (fun t ht R hR => ?_) (fun gs hgl hg => ?_)
    · refine ⟨by omega, ⟨by omega, by omega⟩, tk_nat fun k hk => ?_⟩
      refine m_pick (by intro h; cases h) (by show 4 ≤ 1000000; decide) fun u hu => hR u [.sh .drw, .sh (.int (m : Nat)), .ow (.lst (rs.map rowR)), .sh (.int (i : Nat)), .sh a, .sh (.int (b : Nat)), y6, .sh t] ?_ rfl
      simp only [List.mem_cons, List.not_mem_nil, or_false] at hu
      rcases hu with rfl | rfl | rfl | rfl
      · exact ⟨b, rfl, hb⟩
      · exact ⟨b, rfl, hb⟩
      · refine ⟨((((i : Nat) : Int) + 1) % (m : Nat)).toNat, ?_, ?_⟩
        · have := Int.emod_nonneg (((i : Nat) : Int) + 1) (show ((m : Nat) : Int) ≠ 0 by omega)
          exact congrArg T.int (by omega)
        · have := Int.emod_lt_of_pos (((i : Nat) : Int) + 1) (show (0 : Int) < (m : Nat) by omega)
          have := Int.emod_nonneg (((i : Nat) : Int) + 1) (show ((m : Nat) : Int) ≠ 0 by omega)
          omega
      · exact ⟨k, rfl, by omega⟩
    · rw [rngT_len] at hgl
      have nats : ∀ gs : List T, (∀ t ∈ gs, ∃ j : Nat, t = natT j ∧ j < m) → ∃ js : List Nat, gs = js.map natT ∧ ∀ j ∈ js, j < m := by
        intro gs
        induction gs with
        | nil => intro _; exact ⟨[], rfl, fun j h => by cases h⟩
        | cons g gs ih =>
          intro h
          obtain ⟨js, rfl, hj⟩ := ih fun z hz => h z (List.mem_cons_of_mem _ hz)
          obtain ⟨j, rfl, hjm⟩ := h g List.mem_cons_self
          refine ⟨j :: js, rfl, fun x hx => ?_⟩
          rcases List.mem_cons.mp hx with rfl | hx
          · exact hjm
          · exact hj x hx
      obtain ⟨js, rfl, hj⟩ := nats gs hg
      rw [List.length_map] at hgl
      refine ⟨by rw [List.length_map]; omega, hN _ ⟨rs ++ [(a, js)], _, _, _, _, by rw [List.length_append]; show _ + 1 = _; omega, fun r hrm => ?_, by rw [List.map_append]; rfl⟩⟩
      rcases List.mem_append.mp hrm with h | h
      · exact hr r h
      · rw [List.mem_singleton.mp h]
        refine ⟨hgl, hj, ?_⟩
        simp only [List.mem_cons, List.not_mem_nil, or_false] at ha
        rcases ha with rfl | rfl | rfl | rfl | rfl
        · exact .inl rfl
        all_goals exact .inr ⟨_, rfl, by decide +kernel, by decide +kernel, by decide +kernel⟩
  · rintro st ⟨rs, y3, y4, y5, y6, hl, hr, rfl⟩
    rw [rngT_len] at hl
    have hl : rs.length = m := by omega
    exact q rs hl ⟨fun r h => (hr r h).2.2.elim .inl fun ⟨z, e, _⟩ => .inr ⟨z, e⟩, fun r h j hj => hl ▸ (hr r h).2.1 j hj, fun r h => (hr r h).1, by omega⟩ fun r h => (hr r h).2.2
end G69
namespace G69
open PySem PySem.Spec PyProof.Rows L2
theorem abc_26 : Str.length "abcdefghijklmnopqrstuvwxyz" = 26 := by decide +kernel
theorem int26 {n : Nat} {A B : Prop} (h1 : n ≠ 26 → A) (h2 : n = 26 → B) : If3 (!decide (((n : Nat) : Int) = ((Str.length "abcdefghijklmnopqrstuvwxyz" : Nat) : Int))) A B := if3n (fun h => h1 (by rw [abc_26] at h; omega)) fun h => h2 (by rw [abc_26] at h; omega)
theorem m_rowX {d m : Nat} {t : T} {Q : T → Prop} (h : Ve d t) (q : Q (.bl (rowB m t))) : w_is_machine_row [t, .int (m : Nat)] Q Xk := by
  rw [u_is_machine_row]; unfold b_is_machine_row
  cases h with
  | non => exact q
  | bl x => exact q
  | int h => exact q
  | str h => exact q
  | dic => exact q
  | lst h => exact q
  | @tup d ts h =>
    match ts, h with
    | [], _ => exact q
    | [a], _ => exact q
    | a :: c :: e :: r, _ =>
      rw [show rowB m (.tup (a :: c :: e :: r)) = false by cases c <;> rfl] at q
      exact (if3n (fun _ => q) fun h => absurd h (by omega) : If3 (!decide ((((r.length + 1 + 1 + 1 : Nat)) : Int) = 2)) (Q (.bl false)) False)
    | [a, c], h =>
      have ha := h a List.mem_cons_self
      have hc := h c (List.mem_cons_of_mem _ List.mem_cons_self)
      refine ⟨c, rfl, ?_⟩
      cases hc with
      | non => exact q
      | bl x => exact q
      | int h => exact q
      | str h => exact q
      | dic => exact q
      | lst h => exact q
      | @tup d gs hg =>
        have q : Q (.bl (ansB a && (decide (gs.length = 26) && gs.all (goalB m)))) := q
        have fin : ansB a = true → If3 (!decide (((gs.length : Nat) : Int) = ((Str.length "abcdefghijklmnopqrstuvwxyz" : Nat) : Int))) (Q (.bl false)) (tN fAll (aCons (tLc3 (iSeq (tBin fIx (tVar3 0) (tC3 (.int (1))))) (gN 2) tYes3 (tAndE (tCal w_is_integer (E03) (aCons (tVar3 2) aNil)) (tCh fLe fLt (tC3 (.int (0))) (tVar3 2) (tVar3 1))) [2]) aNil) [.sh (.tup [a, .tup gs]), .sh (.int (m : Nat)), .no] fun t _ => Q t) := fun ea => by
          rw [ea, Bool.true_and] at q
          refine int26 (fun hn => ?_) fun hn => ?_
          · rw [decide_eq_false hn, Bool.false_and] at q
            exact q
          · rw [decide_eq_true hn, Bool.true_and] at q
            refine lc_on (fun t => t) (goalB m) T.bl gs [.sh (.tup [a, .tup gs]), .sh (.int (m : Nat)), .no] (fun P h => ⟨_, rfl, by rw [List.map_id'] at h; exact h⟩) (fun x hx R hR => ?_) ?_
            · have done := hR [.sh (.tup [a, .tup gs]), .sh (.int (m : Nat)), .sh x] rfl
              have gx := hg x hx
              cases gx with
              | @int d i h =>
                have done : R (.bl (decide (0 ≤ i) && decide (i < (m : Nat)))) [.sh (.tup [a, .tup gs]), .sh (.int (m : Nat)), .sh (.int i)] := done
                refine m_int ?_
                show If3 (decide ((0 : Int) ≤ i)) _ _
                refine if3 (fun h => ?_) fun h => ?_
                · rw [decide_eq_true h, Bool.true_and] at done
                  exact done
                · rw [decide_eq_false h, Bool.false_and] at done
                  exact done
              | non => exact m_is_integer (b := false) (c := false) rfl rfl done
              | bl x => exact m_is_integer (b := true) (c := true) rfl rfl done
              | str h => exact m_is_integer (b := false) (c := false) rfl rfl done
              | lst h => exact m_is_integer (b := false) (c := false) rfl rfl done
              | tup h => exact m_is_integer (b := false) (c := false) rfl rfl done
              | dic => exact m_is_integer (b := false) (c := false) rfl rfl done
            · conv => whnf
              rw [bls?_map]
              conv => whnf
              rw [List.all_map]
              exact q
        refine ⟨a, rfl, ?_⟩
        cases ha with
        | non => exact ⟨_, rfl, fin rfl⟩
        | bl x => exact ⟨_, rfl, m_wordX (.bl (d := 0) x) q⟩
        | int g => exact ⟨_, rfl, m_wordX (.int g) q⟩
        | dic => exact ⟨_, rfl, m_wordX (.dic (d := 0)) q⟩
        | lst g => exact ⟨_, rfl, m_wordX (.lst g) q⟩
        | tup g => exact ⟨_, rfl, m_wordX (.tup g) q⟩
        | @str d z g =>
          refine ⟨_, rfl, m_wordX (.str (d := 0) g) ?_⟩
          have q : Q (.bl (isWx (.str z) && (decide (gs.length = 26) && gs.all (goalB m)))) := q
          show If3 (!isWx (.str z)) _ _
          cases hw : isWx (.str z) with
          | false => rw [hw, Bool.false_and] at q; exact q
          | true => exact ⟨_, rfl, fin hw⟩
end G69
namespace G69
open PySem PySem.Spec PyProof.Rows L2
theorem enumT_inv {ts : List T} {i : Nat} {t : T} (h : (enumT ts)[i]? = some t) : ∃ u, ts[i]? = some u ∧ t = .tup [.int (i : Nat), u] := by
  have hi : i < (enumT ts).length := (List.getElem?_eq_some_iff.mp h).1
  rw [enumT_len] at hi
  have e := enumT_at (List.getElem?_eq_getElem hi)
  rw [h] at e
  exact ⟨ts[i], List.getElem?_eq_getElem hi, Option.some.inj e⟩
end G69
namespace G69
open PySem PySem.Spec PyProof.Rows L2
theorem m_machX {d : Nat} {t : T} {Q : T → Prop} {E : XK3} (h : Ve d t) (hz : wt t ≤ 19000) (q : wrongT t = .non → Q (.ins 3 [t])) (qx : ∀ i, wrongT t = .int i → E 7 [.int i]) : w_Machine__init_ [t] Q E := by
  rw [u_Machine__init_]; unfold b_Machine__init_
  cases h with
  | non => exact qx _ rfl
  | bl x => exact qx _ rfl
  | int h => exact qx _ rfl
  | str h => exact qx _ rfl
  | dic => exact qx _ rfl
  | lst h => exact qx _ rfl
  | @tup d ts h =>
    match ts, h, hz, q, qx with
    | [], _, _, _, qx => exact qx _ rfl
    | x0 :: xs, h, hz, q, qx =>
      have hlen : (x0 :: xs).length ≤ 19000 := Nat.le_trans (wts_len _) hz
      refine for_any ?_
      have hw : ∃ res, wrongL (x0 :: xs).length 0 ((x0 :: xs).drop 0) = res ∧ (res = .non → Q (.ins 3 [.tup (x0 :: xs)])) ∧ (∀ i, res = .int i → E 7 [.int i]) := ⟨_, rfl, q, qx⟩
      clear q qx
      obtain ⟨res, hres, q, qx⟩ := hw
      generalize hts : x0 :: xs = ts at *
      clear hts
      refine forW_inv (fun i s => ∃ y2 y3, s = [.ow (.ins 3 []), .sh (.tup ts), y2, y3] ∧ wrongL ts.length i (ts.drop i) = res) ⟨_, _, rfl, hres⟩ ?_ ?_
      · rintro i t s N ht ⟨y2, y3, rfl, hr⟩ hN
        obtain ⟨u, hu, rfl⟩ := enumT_inv ht
        have hlt : i < ts.length := (List.getElem?_eq_some_iff.mp hu).1
        rw [drop_at hu] at hr
        have hr : (if rowB ts.length u = true then wrongL ts.length (i + 1) (ts.drop (i + 1)) else .int (i : Nat)) = res := hr
        show If3 (decide (((i : Nat) : Int) = 20000)) _ _
        refine if3 (fun h => absurd h (by omega)) fun _ => ?_
        refine m_rowX (h u (List.mem_of_getElem? hu)) ?_
        show If3 (!rowB ts.length u) _ _
        cases hb : rowB ts.length u with
        | false =>
          rw [hb, if_neg Bool.false_ne_true] at hr
          exact qx _ hr.symm
        | true =>
          rw [hb, if_pos rfl] at hr
          exact hN _ ⟨_, _, rfl, hr⟩
      · rintro s ⟨y2, y3, rfl, hr⟩
        rw [enumT_len, List.drop_length] at hr
        exact q hr.symm
end G69
namespace G69
open PySem PySem.Spec PyProof.Rows L2
/-! ### worths with one thing changed; the machine -/
theorem isE_go {errs : List Nat} {c x : Nat} {ts : List T} {P : T → Prop} (hc : hasN errs c = true) (q : P (.bl (subX c x))) : fIsE errs x (.err c ts) P := by
  unfold fIsE
  dsimp only
  rw [hc]
  exact q
theorem isE_non {errs : List Nat} {x : Nat} {P : T → Prop} (q : P (.bl false)) : fIsE errs x .non P := by
  unfold fIsE
  exact q
theorem cut_sub (ts : List T) (lo hi : Option Int) : (cutT ts lo hi).Sublist ts := by
  unfold cutT
  exact (List.take_sublist _ _).trans (List.drop_sublist _ _)
theorem vI {d : Nat} {i : Int} (h : i.natAbs ≤ 10 ^ 60) : Ve d (.int i) := .int (Nat.le_trans h (by omega))
theorem sm60 {n : Nat} (h : n ≤ 10 ^ 6) : n ≤ 10 ^ 60 := Nat.le_trans h (by decide)
theorem wts_wb : ∀ {ws : List Int} {B : Int}, B ≤ 10 ^ 6 → WB ws B → wts (ws.map T.int) ≤ 205 * ws.length ∧ ∀ t ∈ ws.map T.int, Ve 2 t
  | [], _, _, _ => ⟨Nat.zero_le _, fun t h => by cases h⟩
  | w :: ws, B, hB, h => by
    obtain ⟨h1, h2⟩ := wts_wb hB (ws := ws) fun x hx => h x (List.mem_cons_of_mem _ hx)
    have hw := h w List.mem_cons_self
    have h3 : w.natAbs ≤ 10 ^ 60 := sm60 (by omega)
    have h4 := wt_int (i := w) (Nat.le_trans h3 (by decide))
    refine ⟨by rw [List.map_cons, wts_cons, List.length_cons]; omega, fun t ht => ?_⟩
    rcases List.mem_cons.mp ht with rfl | ht
    · exact vI h3
    · exact h2 t ht
theorem m_bentW {ws : List Int} {m : Nat} (hl : ws.length = m) (h1 : 1 ≤ m) (h5 : m ≤ 5) (hB : WB ws 10000) {Q : T → Prop} (q : ∀ u, Ve 3 u → wt u ≤ 100000 → Q u) : w_L_bent [.drw, .tup (ws.map T.int)] Q Xk := by
  rw [u_L_bent]; unfold b_L_bent
  have hlm : (ws.map T.int).length = m := by rw [List.length_map, hl]
  refine ⟨⟨by omega, by omega⟩, tk_nat fun k hk => ?_⟩
  have hk : k < ws.length := by omega
  have hw : ws[k]? = some ws[k] := List.getElem?_eq_getElem hk
  have hb := hB _ (List.getElem_mem hk)
  generalize ws[k] = w at hw hb
  have hix : atI (ws.map T.int) (k : Nat) = some (.int w) := atI_nat (by rw [List.getElem?_map, hw]; rfl)
  have w60 : w.natAbs ≤ 10 ^ 60 := sm60 (by omega)
  have w61 : w.natAbs ≤ 10 ^ 61 := Nat.le_trans w60 (by decide)
  obtain ⟨hwt, hve⟩ := wts_wb (by decide) hB
  have hwt : wts (ws.map T.int) ≤ 1025 := by omega
  refine ⟨.int w, hix, .int w, hix, .int w, hix, f_strV w61 ⟨.int w, hix, ⟨⟨by decide, by decide, by decide⟩, ⟨⟨by decide, by decide, by decide⟩, ?_⟩⟩⟩⟩
  refine m_pick (by intro h; cases h) (by show 8 ≤ 1000000; decide) fun x hx => ?_
  have hxv : Ve 2 x ∧ wt x ≤ 300 := by
    simp only [List.mem_cons, List.not_mem_nil, or_false] at hx
    rcases hx with rfl | rfl | rfl | rfl | rfl | rfl | rfl | rfl
    · exact ⟨vI (sm60 (by omega)), Nat.le_trans (wt_int (Nat.le_trans (sm60 (n := (w + 1).natAbs) (by omega)) (by decide))) (by decide)⟩
    · exact ⟨vI (sm60 (by omega)), Nat.le_trans (wt_int (Nat.le_trans (sm60 (n := (w - 1).natAbs) (by omega)) (by decide))) (by decide)⟩
    · exact ⟨.bl _, by decide⟩
    · exact ⟨.non, by decide⟩
    · exact ⟨.str (nstr_ve w61).2, by have := (nstr_ve w61).1; have e : wt (.str (nStr w)) = (nStr w).length := rfl; omega⟩
    · refine ⟨.tup fun y hy => ?_, ?_⟩
      · rw [List.mem_singleton.mp hy]
        exact vI w60
      · have := wt_int w61
        rw [wt_tup, wts_cons]
        show wt (.int w) + 1 + 0 ≤ 300
        omega
    · exact ⟨vI (by decide), Nat.le_trans (wt_int (by decide)) (by decide)⟩
    · exact ⟨vI (by decide), Nat.le_trans (wt_int (by decide)) (by decide)⟩
  have c1 := cutT_len (ws.map T.int) none (some (k : Int))
  have c2 := cutT_len (ws.map T.int) (some ((k : Int) + 1)) none
  have c3 := cutT_len (ws.map T.int) none (some (-1))
  have d1 := wts_sub (cut_sub (ws.map T.int) none (some (k : Int)))
  have d2 := wts_sub (cut_sub (ws.map T.int) (some ((k : Int) + 1)) none)
  have d3 := wts_sub (cut_sub (ws.map T.int) none (some (-1)))
  refine ⟨szle (by show _ + 1 ≤ 1000000; omega), szle (by rw [List.length_append]; show _ + 1 + _ ≤ 1000000; omega), ?_⟩
  refine ⟨szle (by show _ + 1 ≤ 1000000; omega), ?_⟩
  have fourV : ∀ u ∈ ([.tup (cutT (ws.map T.int) none (some (k : Int)) ++ [x] ++ cutT (ws.map T.int) (some ((k : Int) + 1)) none), .lst (ws.map T.int), .tup (ws.map T.int ++ [.int 0]), .tup (cutT (ws.map T.int) none (some (-1)))] : List T), Ve 3 u ∧ wt u ≤ 100000 := by
    intro u hu
    simp only [List.mem_cons, List.not_mem_nil, or_false] at hu
    rcases hu with rfl | rfl | rfl | rfl
    · refine ⟨.tup fun y hy => ?_, ?_⟩
      · rw [List.mem_append, List.mem_append] at hy
        rcases hy with (hy | hy) | hy
        · exact hve y (mem_cut hy)
        · rw [List.mem_singleton.mp hy]; exact hxv.1
        · exact hve y (mem_cut hy)
      · have := hxv.2
        rw [wt_tup, wts_app, wts_app, wts_cons]
        show _ + (wt x + 1 + 0) + _ ≤ 100000
        omega
    · exact ⟨.lst hve, by rw [wt_lst]; omega⟩
    · refine ⟨.tup fun y hy => ?_, ?_⟩
      · rcases List.mem_append.mp hy with hy | hy
        · exact hve y hy
        · rw [List.mem_singleton.mp hy]; exact vI (by decide)
      · rw [wt_tup, wts_app]
        have : wts [.int 0] ≤ 10 := by decide
        omega
    · exact ⟨.tup fun y hy => hve y (mem_cut hy), by rw [wt_tup]; omega⟩
  generalize hF : ([.tup (cutT (ws.map T.int) none (some (k : Int)) ++ [x] ++ cutT (ws.map T.int) (some ((k : Int) + 1)) none), .lst (ws.map T.int), .tup (ws.map T.int ++ [.int 0]), .tup (cutT (ws.map T.int) none (some (-1)))] : List T) = four at fourV
  have hfl : four.length = 4 := by rw [← hF]; rfl
  have g1 := cutT_len four none (some 1)
  have g2 := rep_len (cutT four none (some 1)) 4
  have goal : fAdd (.lst four) (.lst (List.replicate 4 (cutT four none (some 1))).flatten) fun t => fAdd t (.lst [.non, .int 5, .tup [], .dic [] [], .str "", .tup (ws.map T.int).reverse]) fun t => w_L_pick [.drw, t] Q Xk := by
    refine ⟨szle (by rw [g2]; omega), szle (by rw [List.length_append, g2]; show _ + 6 ≤ 1000000; omega), ?_⟩
    refine m_pick (by intro h; have := congrArg List.length h; rw [List.length_append] at this; have h0 : ([] : List T).length = 0 := rfl; rw [h0] at this; have h6 : ([.non, .int 5, .tup [], .dic [] [], .str "", .tup (ws.map T.int).reverse] : List T).length = 6 := rfl; omega) (by rw [List.length_append, List.length_append, g2]; show _ + 6 ≤ 1000000; omega) fun u hu => ?_
    have pack : Ve 3 u ∧ wt u ≤ 100000 := by
      rw [List.mem_append, List.mem_append] at hu
      rcases hu with (hu | hu) | hu
      · exact fourV u hu
      · obtain ⟨l, hl2, hu⟩ := List.mem_flatten.mp hu
        rw [(List.mem_replicate.mp hl2).2] at hu
        exact fourV u (mem_cut hu)
      · simp only [List.mem_cons, List.not_mem_nil, or_false] at hu
        rcases hu with rfl | rfl | rfl | rfl | rfl | rfl
        · exact ⟨.non, by decide⟩
        · exact ⟨vI (by decide), by decide⟩
        · exact ⟨.tup fun y hy => (by cases hy), by decide⟩
        · exact ⟨.dic, by decide⟩
        · exact ⟨.str (by decide +kernel), by decide⟩
        · refine ⟨.tup fun y hy => hve y (List.mem_reverse.mp hy), ?_⟩
          rw [wt_tup, wts_rev]
          omega
    exact q u pack.1 pack.2
  subst hF
  exact ⟨⟨by decide, by decide, szle (by show (cutT _ none (some 1)).length * 4 ≤ 1000000; omega)⟩, goal⟩
theorem wrongL_ok {m : Nat} : ∀ {ts : List T} (i : Nat), (∀ t ∈ ts, rowB m t = true) → wrongL m i ts = .non
  | [], _, _ => rfl
  | r :: rs, i, h => by
    unfold wrongL
    rw [if_pos (h r List.mem_cons_self)]
    exact wrongL_ok _ fun t ht => h t (List.mem_cons_of_mem _ ht)
def AnW (a : T) : Prop := a = .non ∨ ∃ z, a = .str z ∧ 1 ≤ z.length ∧ z.length ≤ 5 ∧ z.cps.toList.all isLb = true
theorem anW_ok {a : T} (h : AnW a) : ansB a = true ∧ Ve 0 a ∧ wt a ≤ 5 := by
  rcases h with rfl | ⟨z, rfl, h1, h2, h3⟩
  · exact ⟨rfl, .non, by decide⟩
  · refine ⟨?_, .str (List.all_eq_true.mpr fun c hc => decide_eq_true ?_), h2⟩
    · show (z.cps.toList.all isLb && (decide (1 ≤ z.length) && decide (z.length ≤ 5))) = true
      rw [h3, decide_eq_true h1, decide_eq_true h2]
      rfl
    · have := List.all_eq_true.mp h3 c hc
      unfold isLb at this
      rw [Bool.and_eq_true, decide_eq_true_eq, decide_eq_true_eq] at this
      omega
theorem wts_nats {m : Nat} (hm : m ≤ 5) : ∀ {gs : List Nat}, (∀ j ∈ gs, j < m) → wts (gs.map natT) ≤ 5 * gs.length
  | [], _ => Nat.zero_le _
  | g :: gs, h => by
    have h1 : ∀ j < 5, wt (natT j) ≤ 4 := by decide +kernel
    have h2 := h1 g (by have := h g List.mem_cons_self; omega)
    have h3 := wts_nats hm (gs := gs) fun t ht => h t (List.mem_cons_of_mem _ ht)
    rw [List.map_cons, wts_cons, List.length_cons]
    omega
theorem rows_ok {rs : List Rr} (ok : RsOk rs) (h1 : 1 ≤ rs.length) (h5 : rs.length ≤ 5) (ha : ∀ r ∈ rs, AnW r.1) : wrongT (.tup (rs.map rowR)) = .non ∧ Ve 3 (.tup (rs.map rowR)) ∧ wt (.tup (rs.map rowR)) ≤ 19000 := by
  refine ⟨?_, .tup fun t ht => ?_, ?_⟩
  · have hr : ∀ t ∈ rs.map rowR, rowB rs.length t = true := fun t ht => by
      obtain ⟨r, hr, rfl⟩ := List.mem_map.mp ht
      show (ansB r.1 && (decide ((r.2.map natT).length = 26) && (r.2.map natT).all (goalB rs.length))) = true
      rw [(anW_ok (ha r hr)).1, decide_eq_true (by rw [List.length_map]; exact ok.n26 r hr), Bool.true_and, Bool.true_and, List.all_eq_true]
      intro t ht
      obtain ⟨j, hj, rfl⟩ := List.mem_map.mp ht
      have := ok.gl r hr j hj
      show (decide ((0 : Int) ≤ (j : Nat)) && decide (((j : Nat) : Int) < (rs.length : Nat))) = true
      rw [decide_eq_true (by omega), decide_eq_true (by omega)]
      rfl
    cases rs with
    | nil => exact absurd h1 (by decide)
    | cons r rs =>
      show wrongL ((rs.map rowR).length + 1) 0 ((r :: rs).map rowR) = .non
      rw [List.length_map]
      exact wrongL_ok 0 hr
  · obtain ⟨r, hr, rfl⟩ := List.mem_map.mp ht
    refine .tup fun x hx => ?_
    simp only [List.mem_cons, List.not_mem_nil, or_false] at hx
    rcases hx with rfl | rfl
    · exact (anW_ok (ha r hr)).2.1.mono (by omega)
    · refine .tup fun y hy => ?_
      obtain ⟨j, hj, rfl⟩ := List.mem_map.mp hy
      have := ok.gl r hr j hj
      exact vI (sm60 (by omega))
  · have : ∀ l : List Rr, (∀ r ∈ l, r ∈ rs) → wts (l.map rowR) ≤ 200 * l.length := by
      intro l
      induction l with
      | nil => intro _; exact Nat.zero_le _
      | cons r l ih =>
        intro h
        have h1 := ih fun x hx => h x (List.mem_cons_of_mem _ hx)
        have hr := h r List.mem_cons_self
        have h2 := wts_nats h5 (gs := r.2) fun j hj => ok.gl r hr j hj
        have h3 := (anW_ok (ha r hr)).2.2
        have h4 := ok.n26 r hr
        have h6 : wt (rowR r) = wt r.1 + 1 + (wts (r.2.map natT) + 1 + 0) := by
          show wts [r.1, .tup (r.2.map natT)] = _
          rw [wts_cons, wts_cons, wt_tup]
          rfl
        rw [List.map_cons, wts_cons, List.length_cons]
        omega
    have := this rs fun r h => h
    rw [wt_tup]
    omega
theorem m_caughtN {W : Sp3} {v : V} {b : Bool} {Q : T → Prop} (h : ∀ (P : T → Prop) (E : XK3), (b = false → ∀ t, P t) → (b = true → E 9 []) → W [.ob v] P E) (q : Q (if b then .err 9 [] else .non)) : w_L_caught W [.ob v] Q Xk := by
  rw [u_L_caught]; unfold b_L_caught bb_L_caught
  refine h _ _ (fun hb t => ?_) fun hb => ?_
  · rw [hb] at q; exact q
  · rw [hb] at q; exact q
end G69
namespace G69
open PySem PySem.Spec PyProof.Rows L2
/-! ### the law -/
theorem badPQ_ii {p q : Int} (hq : 1 ≤ q) : badPQ (.int p) (.int q) = decide (p < 0) := by
  show (decide (p < 0) || decide (q < 1)) = _
  rw [decide_eq_false (by omega : ¬ q < 1), Bool.or_false]
theorem badPQ_pi {p q : Int} (hp : 0 ≤ p) : badPQ (.int p) (.int q) = decide (q < 1) := by
  show (decide (p < 0) || decide (q < 1)) = _
  rw [decide_eq_false (by omega : ¬ p < 0), Bool.false_or]
theorem for_invP {ti : TI3} {g : TG3} {tb : TS3} {D : Ends3} {s : S3} (Pt : T → Prop) (s0 : S3) (I : S3 → Prop) (hi : ∀ P : List T → S3 → Prop, (∀ ts, (∀ t ∈ ts, Pt t) → P ts s0) → ti s P) (h0 : I s0)
    (hs : ∀ (t : T) (s : S3) (N : S3 → Prop), Pt t → I s → (∀ s', I s' → N s') → g t s fun s2 => tb { nx := N, rt := D.rt, bk := D.nx, ct := N, rq := D.rq } s2) (hd : ∀ s, I s → D.nx s) : tFor3 ti g tb D s := by
  rw [u_tFor3]
  exact hi _ fun ts ht => forW_inv (fun _ s => I s) h0 (fun i t s N hti hI hN => hs t s N (ht t (List.mem_of_getElem? hti)) hI hN) hd
theorem k63_law : ∀ n ≤ 63, w_law lawD (lawS n 15) := by
  intro n hn
  unfold w_law
  refine for_inv (rngT 0 3) [.sh (.scr n), .sh .drw, .no, .no, .no, .no, .no, .no, .no, .no, .no, .no, .no, .no, .no]
    (fun i st => ∃ x2 x3 x4 x5 x6 x7 x8 x9 x10 x11 x12 x13 x14, (x10 = Sl.no ∨ ∃ t, x10 = .sh t) ∧ st = [.sh (.scr n), .sh .drw, x2, x3, x4, x5, x6, x7, x8, x9, x10, x11, x12, x13, x14]) (fun P h => ⟨by decide, h⟩) ⟨_, _, _, _, _, _, _, _, _, _, _, _, _, .inl rfl, rfl⟩ ?_ ?_
  · rintro i0 t0 st N _ ⟨x2, x3, x4, x5, x6, x7, x8, x9, x10, x11, x12, x13, x14, h10, rfl⟩ hN
    refine ⟨⟨by decide, by decide⟩, tk_nat fun k hk => ?_⟩
    show w_L_machine_rows [.drw, .int ((1 : Int) + (k : Nat))] _ _
    rw [show (1 : Int) + (k : Nat) = ((k + 1 : Nat) : Int) by omega]
    refine m_mrows (m := k + 1) (by omega) (by omega) fun rs hrl ok han => ?_
    obtain ⟨hg, hv, hz⟩ := rows_ok ok (by omega) (by omega) han
    refine m_machX hv hz (fun _ => ?_) (fun i h => by rw [hg] at h; cases h)
    refine for_inv (rngT 0 5) [.sh (.scr n), .sh .drw, .sh t0, .sh (.tup (rs.map rowR)), .sh (.ins 3 [.tup (rs.map rowR)]), x5, x6, x7, x8, x9, x10, x11, x12, x13, x14]
      (fun i st => ∃ x5 x6 x7 x8 x9 x10 x11 x12 x13 x14, (x10 = Sl.no ∨ ∃ t, x10 = .sh t) ∧ st = [.sh (.scr n), .sh .drw, .sh t0, .sh (.tup (rs.map rowR)), .sh (.ins 3 [.tup (rs.map rowR)]), x5, x6, x7, x8, x9, x10, x11, x12, x13, x14]) (fun P h => ⟨by decide, h⟩) ⟨_, _, _, _, _, _, _, _, _, _, h10, rfl⟩ ?_ ?_
    · clear h10
      rintro i1 t1 st M _ ⟨x5, x6, x7, x8, x9, x10, x11, x12, x13, x14, h10, rfl⟩ hM
      refine ⟨⟨by decide, by decide⟩, tk_nat fun a ha => ?_⟩
      refine ⟨⟨by omega, by omega⟩, tk_nat fun b hb => ?_⟩
      generalize hq : (1 : Int) + (a : Nat) = q
      generalize hp : ((b : Nat) : Int) = p
      have q1 : 1 ≤ q := by omega
      have q5 : q ≤ 5 := by omega
      have p0 : 0 ≤ p := by omega
      have p9 : p ≤ 9 := by omega
      clear hq hp ha hb
      have pV : Ve 0 (.int p) := vI (sm60 (by omega))
      have qV : Ve 0 (.int q) := vI (sm60 (by omega))
      refine m_worths ok (by omega) p0 q1 q5 fun ws hwl hwB => ?_
      obtain ⟨hwt, hwv⟩ := wts_wb (by decide) hwB
      have wV : Ve 3 (.tup (ws.map T.int)) := .tup hwv
      have wZ : wt (.tup (ws.map T.int)) ≤ 100000 := by rw [wt_tup]; omega
      refine for_invP (fun t => Ve 3 t ∧ wt t ≤ 100000) [.sh (.scr n), .sh .drw, .sh t0, .sh (.tup (rs.map rowR)), .sh (.ins 3 [.tup (rs.map rowR)]), .sh t1, .sh (.int q), .sh (.int p), .sh (.tup (ws.map T.int)), x9, x10, x11, x12, x13, x14] (fun st => ∃ x9 x10 x11 x12 x13 x14, (x10 = Sl.no ∨ ∃ t, x10 = .sh t) ∧ st = [.sh (.scr n), .sh .drw, .sh t0, .sh (.tup (rs.map rowR)), .sh (.ins 3 [.tup (rs.map rowR)]), .sh t1, .sh (.int q), .sh (.int p), .sh (.tup (ws.map T.int)), x9, x10, x11, x12, x13, x14]) (fun R hR0 => ?_) ⟨_, _, _, _, _, _, h10, rfl⟩ ?_ ?_
      · refine m_bentW (m := k + 1) (by omega) (by omega) (by omega) hwB fun u hu huz => ?_
        refine lc_all (rs.map rowR) (fun t => ∃ j : Nat, t = .int (j : Nat) ∧ j < 4) [.sh (.scr n), .sh .drw, .sh t0, .sh (.tup (rs.map rowR)), .sh (.ins 3 [.tup (rs.map rowR)]), .sh t1, .sh (.int q), .sh (.int p), .sh (.tup (ws.map T.int)), x9, x10, x11, x12, x13, x14] (fun R h => h) (fun t ht R hR => ?_) (fun vs hvl hvs => ?_) (hb := by rcases h10 with rfl | ⟨t, rfl⟩ <;> rfl)
        · exact ⟨⟨by decide, by decide⟩, tk_nat fun r hr => hR _ [.sh (.scr n), .sh .drw, .sh t0, .sh (.tup (rs.map rowR)), .sh (.ins 3 [.tup (rs.map rowR)]), .sh t1, .sh (.int q), .sh (.int p), .sh (.tup (ws.map T.int)), x9, .sh t, x11, x12, x13, x14] ⟨r, rfl, by omega⟩ rfl⟩
        have vV : Ve 3 (.tup vs) := .tup fun y hy => by
          obtain ⟨j, rfl, hj⟩ := hvs y hy
          exact vI (sm60 (by omega))
        have vZ : wt (.tup vs) ≤ 100000 := by
          have : ∀ l : List T, (∀ y ∈ l, y ∈ vs) → wts l ≤ 205 * l.length := by
            intro l
            induction l with
            | nil => intro _; exact Nat.zero_le _
            | cons y l ih =>
              intro h
              have h1 := ih fun x hx => h x (List.mem_cons_of_mem _ hx)
              obtain ⟨j, rfl, hj⟩ := hvs y (h y List.mem_cons_self)
              have := wt_int (i := (j : Nat)) (Nat.le_trans (sm60 (n := ((j : Nat) : Int).natAbs) (by omega)) (by decide))
              rw [wts_cons, List.length_cons]
              omega
          have := this vs fun y h => h
          rw [List.length_map] at hvl
          rw [wt_tup]
          omega
        refine hR0 [.tup (ws.map T.int), u, .tup vs] fun t hm => ?_
        simp only [List.mem_cons, List.not_mem_nil, or_false] at hm
        rcases hm with rfl | rfl | rfl
        · exact ⟨wV, wZ⟩
        · exact ⟨hu, huz⟩
        · exact ⟨vV, vZ⟩
      · clear h10
        rintro t2 st L hV ⟨x9, x10, x11, x12, x13, x14, h10, rfl⟩ hL
        have no : ∀ {A : Prop}, badPQ (.int p) (.int q) = true → A := fun h => by
          rw [badPQ_ii q1, decide_eq_true_eq] at h
          omega
        refine m_shows ok pV qV hV.1 hV.2 (fun p' q' e1 e2 _ _ => ?_) no
        cases e1
        cases e2
        refine m_shows ok pV qV hV.1 hV.2 (fun p' q' e1 e2 _ _ => ?_) no
        cases e1
        cases e2
        refine ⟨by show 1 ≤ 1000000; decide, ?_⟩
        refine rep_bl2 ?_
        refine m_due ok hV.1 hV.2 ?_
        refine ⟨⟨by decide, by decide, szle (by show 1 * 2 ≤ 1000000; decide)⟩, ?_⟩
        refine rep_bl2 ?_
        refine if3n (fun h => absurd rfl h) fun _ => ?_
        exact hL _ ⟨_, _, _, _, _, _, by rcases h10 with rfl | ⟨t, rfl⟩; exact .inl rfl; exact .inr ⟨t, rfl⟩, rfl⟩
      · clear h10
        rintro st ⟨x9, x10, x11, x12, x13, x14, h10, rfl⟩
        refine ⟨⟨by decide, by decide, by decide⟩, ⟨⟨by decide, by decide, by decide⟩, ?_⟩⟩
        refine m_pick (by intro h; cases h) (by show 9 ≤ 1000000; decide) fun bd hbd => ?_
        have hc : (∃ i : Int, bd = .int i ∧ i.natAbs ≤ 10 ^ 60) ∨ (bd = .non ∨ bd = .bl true ∨ bd = .str "1" ∨ bd = .tup [.int 1] ∨ bd = .lst []) := by
          simp only [List.mem_cons, List.not_mem_nil, or_false] at hbd
          rcases hbd with rfl | rfl | rfl | rfl | rfl | rfl | rfl | rfl | rfl
          · exact .inr (.inl rfl)
          · exact .inr (.inr (.inl rfl))
          · exact .inr (.inr (.inr (.inl rfl)))
          · exact .inr (.inr (.inr (.inr (.inl rfl))))
          · exact .inr (.inr (.inr (.inr (.inr rfl))))
          · exact .inl ⟨_, rfl, by decide⟩
          · exact .inl ⟨_, rfl, by decide⟩
          · exact .inl ⟨_, rfl, by decide⟩
          · exact .inl ⟨_, rfl, by decide⟩
        clear hbd
        rcases hc with ⟨i, rfl, hi⟩ | hc
        · have iV : Ve 0 (.int i) := vI hi
          generalize hb1 : decide (i < 0) = b1
          generalize hb2 : decide (i < 1) = b2
          refine fun v1 => m_caughtN (b := b1) (fun P E h0 h1 => ⟨rfl, m_shows ok iV qV wV wZ (fun p' q' e1 e2 g1 g2 => h0 (by cases e1; rw [← hb1]; exact decide_eq_false (by omega)) _) (fun hb => h1 (by rw [← hb1, ← badPQ_ii q1]; exact hb))⟩) ?_
          refine fun v2 => m_caughtN (b := b2) (fun P E h0 h1 => ⟨rfl, m_shows ok pV iV wV wZ (fun p' q' e1 e2 g1 g2 => h0 (by cases e2; rw [← hb2]; exact decide_eq_false (by omega)) _) (fun hb => h1 (by rw [← hb2, ← badPQ_pi p0]; exact hb))⟩) ?_
          have fin := hM [.sh (.scr n), .sh .drw, .sh t0, .sh (.tup (rs.map rowR)), .sh (.ins 3 [.tup (rs.map rowR)]), .sh t1, .sh (.int q), .sh (.int p), .sh (.tup (ws.map T.int)), x9, .sh (if b1 then .err 9 [] else .non), x11, .sh (.int i), .sh (.bl false), .sh (if b2 then .err 9 [] else .non)] ⟨_, _, _, _, _, _, _, _, _, _, .inr ⟨_, rfl⟩, rfl⟩
          have second : ∀ D : Ends3, D.nx = M → sIf (tOr3 (tBl (tBin fNe (tUn3 (fIsE [0, 2, 7, 9] 9) (tVar3 14)) (tOrE (tVar3 13) (tBin fLt (tVar3 12) (tC3 (.int 1)))))) (tBl (tUn3 (fIsE [0, 2, 7, 9] 2) (tVar3 14)))) (sRet (tC3 (.bl false))) sNx D [.sh (.scr n), .sh .drw, .sh t0, .sh (.tup (rs.map rowR)), .sh (.ins 3 [.tup (rs.map rowR)]), .sh t1, .sh (.int q), .sh (.int p), .sh (.tup (ws.map T.int)), x9, .sh (if b1 then .err 9 [] else .non), x11, .sh (.int i), .sh (.bl false), .sh (if b2 then .err 9 [] else .non)] := by
            intro D hD
            cases b2 with
            | true =>
              refine isE_go rfl ?_
              show If3 (!decide (subX 9 9 = decide (i < 1))) _ _
              rw [hb2]
              refine isE_go rfl ?_
              show D.nx _
              rw [hD]
              exact fin
            | false =>
              refine isE_non ?_
              show If3 (!decide (false = decide (i < 1))) _ _
              rw [hb2]
              refine isE_non ?_
              show D.nx _
              rw [hD]
              exact fin
          cases b1 with
          | true =>
            refine isE_go rfl ?_
            show If3 (!decide (subX 9 9 = decide (i < 0))) _ _
            rw [hb1]
            refine isE_go rfl ?_
            exact second _ rfl
          | false =>
            refine isE_non ?_
            show If3 (!decide (false = decide (i < 0))) _ _
            rw [hb1]
            refine isE_non ?_
            exact second _ rfl
        · have hbV : Ve 2 bd := by
            rcases hc with rfl | rfl | rfl | rfl | rfl
            · exact .non
            · exact .bl _
            · exact .str (by decide +kernel)
            · exact .tup fun y hy => by rw [List.mem_singleton.mp hy]; exact vI (by decide)
            · exact .lst fun y hy => (by cases hy)
          have hb1 : badPQ bd (.int q) = true ∧ badPQ (.int p) bd = true := by
            rcases hc with rfl | rfl | rfl | rfl | rfl <;> exact ⟨rfl, rfl⟩
          have hni : ∀ j : Int, bd ≠ .int j := fun j e => by
            rcases hc with rfl | rfl | rfl | rfl | rfl <;> cases e
          refine fun v1 => m_caughtN (b := true) (fun P E h0 h1 => ⟨rfl, m_shows ok hbV qV wV wZ (fun p' q' e1 _ _ _ => absurd e1 (hni p')) (fun _ => h1 rfl)⟩) ?_
          have fin := hM [.sh (.scr n), .sh .drw, .sh t0, .sh (.tup (rs.map rowR)), .sh (.ins 3 [.tup (rs.map rowR)]), .sh t1, .sh (.int q), .sh (.int p), .sh (.tup (ws.map T.int)), x9, .sh (.err 9 []), x11, .sh bd, .sh (.bl true), .sh (.err 9 [])] ⟨_, _, _, _, _, _, _, _, _, _, .inr ⟨_, rfl⟩, rfl⟩
          rcases hc with rfl | rfl | rfl | rfl | rfl
          all_goals
            refine fun v2 => m_caughtN (b := true) (fun P E h0 h1 => ⟨rfl, m_shows ok pV hbV wV wZ (fun p' q' _ e2 _ _ => absurd e2 (hni q')) (fun _ => h1 rfl)⟩) ?_
            refine isE_go rfl ?_
            refine isE_go rfl ?_
            refine isE_go rfl ?_
            refine isE_go rfl ?_
            exact fin
    · clear h10
      rintro st ⟨x5, x6, x7, x8, x9, x10, x11, x12, x13, x14, h10, rfl⟩
      exact hN _ ⟨_, _, _, _, _, _, _, _, _, _, _, _, _, h10, rfl⟩
  · rintro st ⟨x2, x3, x4, x5, x6, x7, x8, x9, x10, x11, x12, x13, x14, h10, rfl⟩
    rfl
end G69
namespace G69
open PySem PySem.Spec PyProof.Rows L2
/-! ### what the top has written -/
section
variable {K : PySem.W.Frag} {mg : Str → Option Value}
theorem def3_mk {x : Str} {st : Stmt} {ps : List Str} {f : Addr} {fd : FuncData} (F : Fun K x x st f fd) (g : mg x = some (.ref f)) (b : Binds K fd ps [])
    (hk : ∀ (kV doc pm : Value) (an : Option Addr) (cdv ct : Value) (ws : List Value), ws.length = ps.length → bindArgs (PySem.W.fnOf x x (defArgs st) (defBody st) (defScope st) .none kV doc pm an cdv ct) ⟨[], ps.zip ws⟩ = pure (ps.zip ws)) : Def3 K mg x st ps := by
  obtain ⟨oc, od, kV, doc, pm, an, cdv, ct, osl, e, lk, hcd⟩ := F.ex
  refine ⟨f, fd, F, g, b, ⟨fun s us ws X l1 l2 => ?_, fun _ r => r⟩⟩
  match us, l1 with
  | [], _ =>
    rw [e]
    exact .of_eq (hk kV doc pm an cdv ct ws l2)
theorem cf_mk {c : Nat} {C : Addr} (g : mg (cn c) = some (.ref C)) (cl : Cls K C) (no : ∀ f ∈ fnm c, NoAttr K C f) : Cf K mg c :=
  ⟨⟨C, g⟩, fun C' h => cfSame g h ▸ cl, fun C' h => cfSame g h ▸ no⟩
theorem oc_mk {c : Nat} {C : Addr} (g : mg (cn c) = some (.ref C)) (o : OwnC K C) : Oc K mg c := ⟨fun C' h => cfSame g h ▸ o⟩
end
end G69
namespace G69
open PySem PySem.Spec PyProof.Rows L2
/-- walk_guard, the written part told by the Hook -/
theorem walk_guardE {l : PySem.W.OpenLaw} {k : Nat} {q : Program} {loose : List Str} {XP : (Str → Option Value) → Heap → Prop} {YP : World → Heap → Prop} {d : DefRec}
    (hn : l.most = some 63) (hdf : d.params.defaults = []) (hr : Room k callerA) (hq : importsNone q = true) (hrec : ∀ x ∈ lamDefs, ((recsOf q).any fun e => e.name == x) = true)
    (F : ∀ (w : World) (mg : Str → Option Value) (fa : Addr) (h : Heap), YP w h → h.Ns mainGlobals mg → mg d.name = some (.ref fa) →
      ∃ K : PySem.W.Frag, K.In h ∧ ∃ fd : FuncData, (∀ e ∈ tabs3 K mg, K.lookup e.2.1 = none) ∧ (∀ (s : Shared) (u : Value), BindsTo s fd ⟨[u], []⟩ [("_law_script", u)]) ∧
        ∀ base : Heap, (∃ mm, base.Ns sysModules mm) → (∀ e ∈ tabs3 K mg, LamX.TabB base mg e.1 e.2.1) → FnOkG l.prog w K mg base CX0 k fa fd ["_law_script"] (spLawT K mg)) :
    PySem.W.WalkO q loose XP YP l.row.toRowW d [] (fun f vs => PySem.call f vs) :=
  Att.attach_callB hn hdf fun w s₀ s₁ mg mb fa o pm cd doc a vs ns G Y ho hd hcd hmg hobj hints hlen _ hg => by
    obtain ⟨K, KX, fd, hno, hb, hF⟩ := F w mg fa _ Y G.T.g hmg
    have ht : ∀ e ∈ tabs3 K mg, PySem.W.CodeHd s₁.heap e.1 e.2.1 ∧ s₁.heap.get? e.2.1 = some { cls := .none, data := .fields #[] } := fun e he => by
      obtain ⟨x, hx, hxe⟩ := List.mem_filterMap.mp he
      obtain ⟨dL, hm, hn1⟩ := List.any_eq_true.mp (hrec x hx)
      obtain ⟨a', o', fd', c', P', h1, h2, h3, h4, h5, h6⟩ := G.T.tab dL hm
      rw [show dL.name = x from beq_iff_eq.mp hn1] at h1
      unfold tabOf at hxe
      rw [h1] at hxe
      dsimp only at hxe
      split at hxe
      · rename_i o2 k1
        have g1 := KX _ _ k1
        rw [h2] at g1
        cases g1
        rw [h3] at hxe
        dsimp only at hxe
        rw [h4] at hxe
        dsimp only at hxe
        split at hxe
        · rename_i oc k2
          have g2 := KX _ _ k2
          have h6' := h6
          obtain ⟨⟨oc', vc, e1, _, e3, e4⟩, hP⟩ := h6'
          rw [g2] at e1
          cases e1
          rw [e3] at hxe
          dsimp only at hxe
          rw [e4] at hxe
          cases hxe
          exact ⟨.of h5 h6, hP⟩
        · cases hxe
      · cases hxe
    exact law_run KX G.T.g G.T.b G.T.builtins G.T.nolimit hg ⟨fun e he => (ht e he).2, hno, fun e he => (ht e he).1⟩ (fun _ => G.T.bmain) hobj hints (szle (by omega)) hr (let ⟨mm, h, _⟩ := (G.T.seer hq).mods; ⟨mm, h⟩) hF hb fun H hT hS => ⟨⟨a, ns, rfl, hS, hlen, fun _ => rfl⟩, hT⟩
end G69
namespace G69
open PySem PySem.Spec PyProof.Rows L2
abbrev xs_BadMachine : Stmt := inClass (topS 3) 0
set_option maxHeartbeats 0 in
theorem all_mk {l : PySem.W.OpenLaw} {w : World} {K : PySem.W.Frag} {h : Heap} {mg : Str → Option Value} {fa : Addr} (X : K.In h) (G : h.Ns mainGlobals mg) (hfa : mg "law" = some (.ref fa))
    {tkLETTERS : Tok}
    {tkLONGEST : Tok}
    {tkMOST_ROWS : Tok}
    {fis_integer : Addr} {odis_integer anis_integer : Option Addr} {slis_integer : Array (Option Value)} {ocis_integer kVis_integer dcis_integer pmis_integer cdis_integer ctis_integer : Value}
    {fis_text : Addr} {odis_text anis_text : Option Addr} {slis_text : Array (Option Value)} {ocis_text kVis_text dcis_text pmis_text cdis_text ctis_text : Value}
    {fis_word : Addr} {odis_word anis_word : Option Addr} {slis_word : Array (Option Value)} {ocis_word kVis_word dcis_word pmis_word cdis_word ctis_word : Value}
    {fis_machine_row : Addr} {odis_machine_row anis_machine_row : Option Addr} {slis_machine_row : Array (Option Value)} {ocis_machine_row kVis_machine_row dcis_machine_row pmis_machine_row cdis_machine_row ctis_machine_row : Value}
    {CMachine : Addr}
    {fMI : Addr} {odMI anMI : Option Addr} {slMI : Array (Option Value)} {ocMI kVMI dcMI pmMI cdMI ctMI : Value}
    {qp_Machine_rows : Addr} {restp_Machine_rows : List Value}
    {fp_Machine_rows : Addr} {odp_Machine_rows anp_Machine_rows : Option Addr} {slp_Machine_rows : Array (Option Value)} {ocp_Machine_rows kVp_Machine_rows dcp_Machine_rows pmp_Machine_rows cdp_Machine_rows ctp_Machine_rows : Value}
    {fm_Machine__len_ : Addr} {odm_Machine__len_ anm_Machine__len_ : Option Addr} {slm_Machine__len_ : Array (Option Value)} {ocm_Machine__len_ kVm_Machine__len_ dcm_Machine__len_ pmm_Machine__len_ cdm_Machine__len_ ctm_Machine__len_ : Value}
    {fgoals_of : Addr} {odgoals_of angoals_of : Option Addr} {slgoals_of : Array (Option Value)} {ocgoals_of kVgoals_of dcgoals_of pmgoals_of cdgoals_of ctgoals_of : Value}
    {fedges_of : Addr} {odedges_of anedges_of : Option Addr} {sledges_of : Array (Option Value)} {ocedges_of kVedges_of dcedges_of pmedges_of cdedges_of ctedges_of : Value}
    {fshows_rate : Addr} {odshows_rate anshows_rate : Option Addr} {slshows_rate : Array (Option Value)} {ocshows_rate kVshows_rate dcshows_rate pmshows_rate cdshows_rate ctshows_rate : Value}
    {fL_pick : Addr} {odL_pick anL_pick : Option Addr} {slL_pick : Array (Option Value)} {ocL_pick kVL_pick dcL_pick pmL_pick cdL_pick ctL_pick : Value}
    {fL_caught : Addr} {odL_caught anL_caught : Option Addr} {slL_caught : Array (Option Value)} {ocL_caught kVL_caught dcL_caught pmL_caught cdL_caught ctL_caught : Value}
    {fL_machine_rows : Addr} {odL_machine_rows anL_machine_rows : Option Addr} {slL_machine_rows : Array (Option Value)} {ocL_machine_rows kVL_machine_rows dcL_machine_rows pmL_machine_rows cdL_machine_rows ctL_machine_rows : Value}
    {fL_due : Addr} {odL_due anL_due : Option Addr} {slL_due : Array (Option Value)} {ocL_due kVL_due dcL_due pmL_due cdL_due ctL_due : Value}
    {fL_worths : Addr} {odL_worths anL_worths : Option Addr} {slL_worths : Array (Option Value)} {ocL_worths kVL_worths dcL_worths pmL_worths cdL_worths ctL_worths : Value}
    {fL_bent : Addr} {odL_bent anL_bent : Option Addr} {slL_bent : Array (Option Value)} {ocL_bent kVL_bent dcL_bent pmL_bent cdL_bent ctL_bent : Value}
    {XSpellError : Addr}
    {XBadText : Addr}
    {XBadMachine : Addr}
    {nmBadMachine qnBadMachine : Str} {NBadMachine : Addr} {bsBadMachine bmBadMachine : List Value} {snBadMachine : List Str} {sbBadMachine : List Value} {abBadMachine : Bool} {coBadMachine : Option Bool} {ddBadMachine : Option Addr} {kaBadMachine kbBadMachine kcBadMachine kdBadMachine keBadMachine : Option Value}
    {fiBadMachine cdaBadMachine ccBadMachine : Addr} {odBadMachine cddBadMachine cldBadMachine anBadMachine : Option Addr} {oslBadMachine ccsBadMachine cslBadMachine : Array (Option Value)} {ocBadMachine cclBadMachine clBadMachine kVBadMachine dcBadMachine pmBadMachine ctBadMachine : Value} {cvsBadMachine : Array Value} {flBadMachine : Str} {tfBadMachine : Tok}
    {XBadNumber : Addr}
    {fL_begin : Addr} {odL_begin anL_begin : Option Addr} {slL_begin : Array (Option Value)} {ocL_begin kVL_begin dcL_begin pmL_begin cdL_begin ctL_begin : Value}
    {fL_take : Addr} {odL_take anL_take : Option Addr} {slL_take : Array (Option Value)} {ocL_take kVL_take dcL_take pmL_take cdL_take ctL_take : Value}
    {fLaw : Addr} {odLaw anLaw : Option Addr} {slLaw : Array (Option Value)} {ocLaw kVLaw dcLaw pmLaw cdLaw ctLaw : Value}
    {cLw PLw : Addr} {eLw : Value} {ddLw : Option Addr} {vsLw : Array Value} {slLw : Array (Option Value)}
    (z_abs : PySem.W.nsIn K mainGlobals "abs" = some none)
    (z_all : PySem.W.nsIn K mainGlobals "all" = some none)
    (z_any : PySem.W.nsIn K mainGlobals "any" = some none)
    (z_bool : PySem.W.nsIn K mainGlobals "bool" = some none)
    (z_dict : PySem.W.nsIn K mainGlobals "dict" = some none)
    (z_divmod : PySem.W.nsIn K mainGlobals "divmod" = some none)
    (z_enumerate : PySem.W.nsIn K mainGlobals "enumerate" = some none)
    (z_int : PySem.W.nsIn K mainGlobals "int" = some none)
    (z_isinstance : PySem.W.nsIn K mainGlobals "isinstance" = some none)
    (z_len : PySem.W.nsIn K mainGlobals "len" = some none)
    (z_list : PySem.W.nsIn K mainGlobals "list" = some none)
    (z_max : PySem.W.nsIn K mainGlobals "max" = some none)
    (z_min : PySem.W.nsIn K mainGlobals "min" = some none)
    (z_range : PySem.W.nsIn K mainGlobals "range" = some none)
    (z_repr : PySem.W.nsIn K mainGlobals "repr" = some none)
    (z_set : PySem.W.nsIn K mainGlobals "set" = some none)
    (z_sorted : PySem.W.nsIn K mainGlobals "sorted" = some none)
    (z_str : PySem.W.nsIn K mainGlobals "str" = some none)
    (z_sum : PySem.W.nsIn K mainGlobals "sum" = some none)
    (z_tuple : PySem.W.nsIn K mainGlobals "tuple" = some none)
    (z_zip : PySem.W.nsIn K mainGlobals "zip" = some none)
    (g_LETTERS : PySem.W.nsIn K mainGlobals "LETTERS" = some (some (.str "abcdefghijklmnopqrstuvwxyz" tkLETTERS)))
    (g_LONGEST : PySem.W.nsIn K mainGlobals "LONGEST" = some (some (.int 5 tkLONGEST)))
    (g_MOST_ROWS : PySem.W.nsIn K mainGlobals "MOST_ROWS" = some (some (.int 20000 tkMOST_ROWS)))
    (ais_integer : PySem.W.nsIn K mainGlobals "is_integer" = some (some (.ref fis_integer)))
    (lis_integer : K.lookup fis_integer = some ⟨ocis_integer, odis_integer, .func (PySem.W.fnOf "is_integer" "is_integer" (defArgs s_is_integer) (defBody s_is_integer) (defScope s_is_integer) .none kVis_integer dcis_integer pmis_integer anis_integer cdis_integer ctis_integer), slis_integer⟩)
    (cis_integer : PySem.W.codeIn K cdis_integer "is_integer" = true)
    (kis_integer : PySem.W.keepIn K (.ref fis_integer) = true)
    (ais_text : PySem.W.nsIn K mainGlobals "is_text" = some (some (.ref fis_text)))
    (lis_text : K.lookup fis_text = some ⟨ocis_text, odis_text, .func (PySem.W.fnOf "is_text" "is_text" (defArgs s_is_text) (defBody s_is_text) (defScope s_is_text) .none kVis_text dcis_text pmis_text anis_text cdis_text ctis_text), slis_text⟩)
    (cis_text : PySem.W.codeIn K cdis_text "is_text" = true)
    (kis_text : PySem.W.keepIn K (.ref fis_text) = true)
    (ais_word : PySem.W.nsIn K mainGlobals "is_word" = some (some (.ref fis_word)))
    (lis_word : K.lookup fis_word = some ⟨ocis_word, odis_word, .func (PySem.W.fnOf "is_word" "is_word" (defArgs s_is_word) (defBody s_is_word) (defScope s_is_word) .none kVis_word dcis_word pmis_word anis_word cdis_word ctis_word), slis_word⟩)
    (cis_word : PySem.W.codeIn K cdis_word "is_word" = true)
    (kis_word : PySem.W.keepIn K (.ref fis_word) = true)
    (ais_machine_row : PySem.W.nsIn K mainGlobals "is_machine_row" = some (some (.ref fis_machine_row)))
    (lis_machine_row : K.lookup fis_machine_row = some ⟨ocis_machine_row, odis_machine_row, .func (PySem.W.fnOf "is_machine_row" "is_machine_row" (defArgs s_is_machine_row) (defBody s_is_machine_row) (defScope s_is_machine_row) .none kVis_machine_row dcis_machine_row pmis_machine_row anis_machine_row cdis_machine_row ctis_machine_row), slis_machine_row⟩)
    (cis_machine_row : PySem.W.codeIn K cdis_machine_row "is_machine_row" = true)
    (kis_machine_row : PySem.W.keepIn K (.ref fis_machine_row) = true)
    (aCMachine : PySem.W.nsIn K mainGlobals "Machine" = some (some (.ref CMachine)))
    (pgMachine : PySem.W.plainGet K CMachine Str.empty = true)
    (hdMachine : PySem.W.hasDictIn K CMachine = true)
    (poMachine : PySem.W.plainOver K CMachine = true)
    (saMachine : PySem.W.findIn K (.ref CMachine) "__setattr__" = some (some (.builtin "object.__setattr__")))
    (n_Machine_m_rows : PySem.W.findIn K (.ref CMachine) "m_rows" = some none)
    (aMI : PySem.W.findIn K (.ref CMachine) "__init__" = some (some (.ref fMI)))
    (lMI : K.lookup fMI = some ⟨ocMI, odMI, .func (PySem.W.fnOf "__init__" "Machine.__init__" (defArgs s_Machine__init_) (defBody s_Machine__init_) (defScope s_Machine__init_) .none kVMI dcMI pmMI anMI cdMI ctMI), slMI⟩)
    (cMI : PySem.W.codeIn K cdMI "Machine.__init__" = true)
    (kMI : PySem.W.keepIn K (.ref fMI) = true)
    (iMI : PySem.W.isFn K (.ref fMI) = true)
    (mkMI : PySem.W.makesIn K CMachine = true)
    (kcMI : PySem.W.keepIn K (.ref CMachine) = true)
    (atp_Machine_rows : PySem.W.findIn K (.ref CMachine) "rows" = some (some (.ref qp_Machine_rows)))
    (gtp_Machine_rows : PySem.W.specialIn K (.ref qp_Machine_rows) "__get__" = some (some (.builtin "property.__get__")))
    (tkp_Machine_rows : PySem.W.takesIn K (.ref qp_Machine_rows) = some true)
    (ap_Machine_rows : PySem.W.recIn K qp_Machine_rows "property" = some (.ref fp_Machine_rows :: restp_Machine_rows))
    (lp_Machine_rows : K.lookup fp_Machine_rows = some ⟨ocp_Machine_rows, odp_Machine_rows, .func (PySem.W.fnOf "rows" "Machine.rows" (defArgs s_Machine_rows) (defBody s_Machine_rows) (defScope s_Machine_rows) .none kVp_Machine_rows dcp_Machine_rows pmp_Machine_rows anp_Machine_rows cdp_Machine_rows ctp_Machine_rows), slp_Machine_rows⟩)
    (cp_Machine_rows : PySem.W.codeIn K cdp_Machine_rows "Machine.rows" = true)
    (kp_Machine_rows : PySem.W.keepIn K (.ref fp_Machine_rows) = true)
    (am_Machine__len_ : PySem.W.findIn K (.ref CMachine) "__len__" = some (some (.ref fm_Machine__len_)))
    (lm_Machine__len_ : K.lookup fm_Machine__len_ = some ⟨ocm_Machine__len_, odm_Machine__len_, .func (PySem.W.fnOf "__len__" "Machine.__len__" (defArgs s_Machine__len_) (defBody s_Machine__len_) (defScope s_Machine__len_) .none kVm_Machine__len_ dcm_Machine__len_ pmm_Machine__len_ anm_Machine__len_ cdm_Machine__len_ ctm_Machine__len_), slm_Machine__len_⟩)
    (cm_Machine__len_ : PySem.W.codeIn K cdm_Machine__len_ "Machine.__len__" = true)
    (km_Machine__len_ : PySem.W.keepIn K (.ref fm_Machine__len_) = true)
    (im_Machine__len_ : PySem.W.isFn K (.ref fm_Machine__len_) = true)
    (hm_Machine__len_ : PySem.W.fnIn K fm_Machine__len_ = true)
    (agoals_of : PySem.W.nsIn K mainGlobals "goals_of" = some (some (.ref fgoals_of)))
    (lgoals_of : K.lookup fgoals_of = some ⟨ocgoals_of, odgoals_of, .func (PySem.W.fnOf "goals_of" "goals_of" (defArgs s_goals_of) (defBody s_goals_of) (defScope s_goals_of) .none kVgoals_of dcgoals_of pmgoals_of angoals_of cdgoals_of ctgoals_of), slgoals_of⟩)
    (cgoals_of : PySem.W.codeIn K cdgoals_of "goals_of" = true)
    (kgoals_of : PySem.W.keepIn K (.ref fgoals_of) = true)
    (aedges_of : PySem.W.nsIn K mainGlobals "edges_of" = some (some (.ref fedges_of)))
    (ledges_of : K.lookup fedges_of = some ⟨ocedges_of, odedges_of, .func (PySem.W.fnOf "edges_of" "edges_of" (defArgs s_edges_of) (defBody s_edges_of) (defScope s_edges_of) .none kVedges_of dcedges_of pmedges_of anedges_of cdedges_of ctedges_of), sledges_of⟩)
    (cedges_of : PySem.W.codeIn K cdedges_of "edges_of" = true)
    (kedges_of : PySem.W.keepIn K (.ref fedges_of) = true)
    (ashows_rate : PySem.W.nsIn K mainGlobals "shows_rate" = some (some (.ref fshows_rate)))
    (lshows_rate : K.lookup fshows_rate = some ⟨ocshows_rate, odshows_rate, .func (PySem.W.fnOf "shows_rate" "shows_rate" (defArgs s_shows_rate) (defBody s_shows_rate) (defScope s_shows_rate) .none kVshows_rate dcshows_rate pmshows_rate anshows_rate cdshows_rate ctshows_rate), slshows_rate⟩)
    (cshows_rate : PySem.W.codeIn K cdshows_rate "shows_rate" = true)
    (kshows_rate : PySem.W.keepIn K (.ref fshows_rate) = true)
    (aL_pick : PySem.W.nsIn K mainGlobals "_law_pick" = some (some (.ref fL_pick)))
    (lL_pick : K.lookup fL_pick = some ⟨ocL_pick, odL_pick, .func (PySem.W.fnOf "_law_pick" "_law_pick" (defArgs s_L_pick) (defBody s_L_pick) (defScope s_L_pick) .none kVL_pick dcL_pick pmL_pick anL_pick cdL_pick ctL_pick), slL_pick⟩)
    (cL_pick : PySem.W.codeIn K cdL_pick "_law_pick" = true)
    (kL_pick : PySem.W.keepIn K (.ref fL_pick) = true)
    (aL_caught : PySem.W.nsIn K mainGlobals "_law_caught" = some (some (.ref fL_caught)))
    (lL_caught : K.lookup fL_caught = some ⟨ocL_caught, odL_caught, .func (PySem.W.fnOf "_law_caught" "_law_caught" (defArgs s_L_caught) (defBody s_L_caught) (defScope s_L_caught) .none kVL_caught dcL_caught pmL_caught anL_caught cdL_caught ctL_caught), slL_caught⟩)
    (cL_caught : PySem.W.codeIn K cdL_caught "_law_caught" = true)
    (kL_caught : PySem.W.keepIn K (.ref fL_caught) = true)
    (aL_machine_rows : PySem.W.nsIn K mainGlobals "_law_machine_rows" = some (some (.ref fL_machine_rows)))
    (lL_machine_rows : K.lookup fL_machine_rows = some ⟨ocL_machine_rows, odL_machine_rows, .func (PySem.W.fnOf "_law_machine_rows" "_law_machine_rows" (defArgs s_L_machine_rows) (defBody s_L_machine_rows) (defScope s_L_machine_rows) .none kVL_machine_rows dcL_machine_rows pmL_machine_rows anL_machine_rows cdL_machine_rows ctL_machine_rows), slL_machine_rows⟩)
    (cL_machine_rows : PySem.W.codeIn K cdL_machine_rows "_law_machine_rows" = true)
    (kL_machine_rows : PySem.W.keepIn K (.ref fL_machine_rows) = true)
    (aL_due : PySem.W.nsIn K mainGlobals "_law_due" = some (some (.ref fL_due)))
    (lL_due : K.lookup fL_due = some ⟨ocL_due, odL_due, .func (PySem.W.fnOf "_law_due" "_law_due" (defArgs s_L_due) (defBody s_L_due) (defScope s_L_due) .none kVL_due dcL_due pmL_due anL_due cdL_due ctL_due), slL_due⟩)
    (cL_due : PySem.W.codeIn K cdL_due "_law_due" = true)
    (kL_due : PySem.W.keepIn K (.ref fL_due) = true)
    (aL_worths : PySem.W.nsIn K mainGlobals "_law_worths" = some (some (.ref fL_worths)))
    (lL_worths : K.lookup fL_worths = some ⟨ocL_worths, odL_worths, .func (PySem.W.fnOf "_law_worths" "_law_worths" (defArgs s_L_worths) (defBody s_L_worths) (defScope s_L_worths) .none kVL_worths dcL_worths pmL_worths anL_worths cdL_worths ctL_worths), slL_worths⟩)
    (cL_worths : PySem.W.codeIn K cdL_worths "_law_worths" = true)
    (kL_worths : PySem.W.keepIn K (.ref fL_worths) = true)
    (aL_bent : PySem.W.nsIn K mainGlobals "_law_bent" = some (some (.ref fL_bent)))
    (lL_bent : K.lookup fL_bent = some ⟨ocL_bent, odL_bent, .func (PySem.W.fnOf "_law_bent" "_law_bent" (defArgs s_L_bent) (defBody s_L_bent) (defScope s_L_bent) .none kVL_bent dcL_bent pmL_bent anL_bent cdL_bent ctL_bent), slL_bent⟩)
    (cL_bent : PySem.W.codeIn K cdL_bent "_law_bent" = true)
    (kL_bent : PySem.W.keepIn K (.ref fL_bent) = true)
    (o1Machine : PySem.W.findIn K (.ref CMachine) "__class__" = some (some (.builtin "object.__class__")))
    (o2Machine : PySem.W.specialIn K (.builtin "object.__class__") "__get__" = some (some (.builtin "getset_descriptor.__get__")))
    (o3Machine : PySem.W.takesIn K (.builtin "object.__class__") = some true)
    (o4Machine : PySem.W.mroIn K CMachine (.type "object") = some true)
    (o5Machine : PySem.W.findIn K (.ref CMachine) "__ne__" = some (some (.builtin "object.__ne__")))
    (ntMachine : PySem.W.typeIn K (.ref CMachine) = some (.type "type"))
    (nsNoneTypeMachine : PySem.W.subIn K (.type "NoneType") (.ref CMachine) = some false)
    (nsboolMachine : PySem.W.subIn K (.type "bool") (.ref CMachine) = some false)
    (nsintMachine : PySem.W.subIn K (.type "int") (.ref CMachine) = some false)
    (nsstrMachine : PySem.W.subIn K (.type "str") (.ref CMachine) = some false)
    (nslistMachine : PySem.W.subIn K (.type "list") (.ref CMachine) = some false)
    (nstupleMachine : PySem.W.subIn K (.type "tuple") (.ref CMachine) = some false)
    (nsdictMachine : PySem.W.subIn K (.type "dict") (.ref CMachine) = some false)
    (aXSpellError : PySem.W.nsIn K mainGlobals "SpellError" = some (some (.ref XSpellError)))
    (exSpellError : PySem.W.subIn K (.ref XSpellError) (.type "BaseException") = some true)
    (tySpellError : PySem.W.typeIn K (.ref XSpellError) = some (.type "type"))
    (kpSpellError : PySem.W.keepIn K (.ref XSpellError) = true)
    (xiSpellError : PySem.W.excIn K XSpellError veT "ValueError.__new__" = true)
    (aXBadText : PySem.W.nsIn K mainGlobals "BadText" = some (some (.ref XBadText)))
    (exBadText : PySem.W.subIn K (.ref XBadText) (.type "BaseException") = some true)
    (tyBadText : PySem.W.typeIn K (.ref XBadText) = some (.type "type"))
    (kpBadText : PySem.W.keepIn K (.ref XBadText) = true)
    (xiBadText : PySem.W.excIn K XBadText veT "ValueError.__new__" = true)
    (aXBadMachine : PySem.W.nsIn K mainGlobals "BadMachine" = some (some (.ref XBadMachine)))
    (exBadMachine : PySem.W.subIn K (.ref XBadMachine) (.type "BaseException") = some true)
    (tyBadMachine : PySem.W.typeIn K (.ref XBadMachine) = some (.type "type"))
    (kpBadMachine : PySem.W.keepIn K (.ref XBadMachine) = true)
    (lcBadMachine : K.lookup XBadMachine = some (excClassObj nmBadMachine qnBadMachine XBadMachine NBadMachine bsBadMachine bmBadMachine true snBadMachine sbBadMachine abBadMachine coBadMachine ddBadMachine kaBadMachine kbBadMachine kcBadMachine kdBadMachine keBadMachine "ValueError.__new__"))
    (rvBadMachine : PySem.HandSPX.refsVE bmBadMachine = true)
    (saBadMachine : PySem.W.findIn K (.ref XBadMachine) "__setattr__" = some (some (.builtin "object.__setattr__")))
    (gaBadMachine : PySem.W.findIn K (.ref XBadMachine) "__getattribute__" = some (some (.builtin "BaseException.__getattribute__")))
    (ggBadMachine : PySem.W.findIn K (.ref XBadMachine) "__getattr__" = some none)
    (hdBadMachine : PySem.W.hasDictIn K XBadMachine = true)
    (noBadMachine : PySem.W.findIn K (.ref XBadMachine) "row" = some none)
    (iiBadMachine : PySem.W.findIn K (.ref XBadMachine) "__init__" = some (some (.ref fiBadMachine)))
    (tiBadMachine : PySem.W.typeIn K (.ref fiBadMachine) = some (.type "function"))
    (liBadMachine : K.lookup fiBadMachine = some ⟨ocBadMachine, odBadMachine, .func (PySem.W.ksFn "__init__" "BadMachine.__init__" (defArgs xs_BadMachine) (defBody xs_BadMachine) (defScope xs_BadMachine) .none kVBadMachine dcBadMachine pmBadMachine anBadMachine (.ref cdaBadMachine) ctBadMachine ccBadMachine), oslBadMachine⟩)
    (cdBadMachine : PySem.W.codeIn K (.ref cdaBadMachine) "BadMachine.__init__" = true)
    (lkBadMachine : K.lookup cdaBadMachine = some ⟨cclBadMachine, cddBadMachine, .fields cvsBadMachine, ccsBadMachine⟩)
    (vsBadMachine : cvsBadMachine[2]? = some (.str flBadMachine tfBadMachine))
    (flBadMachine : ((l.prog.main.file : Str) == flBadMachine) = true)
    (ceBadMachine : K.lookup ccBadMachine = some ⟨clBadMachine, cldBadMachine, .cell (some (.ref XBadMachine)), cslBadMachine⟩)
    (suBadMachine : PySem.W.ks_superIn K XBadMachine XBadMachine "__init__" = some (some (.builtin "ValueError.__init__")))
    (msBadMachine : PySem.W.mroIn K XBadMachine (.ref XBadMachine) = some true)
    (svBadMachine : PySem.W.subIn K (.ref XBadMachine) (.type "ValueError") = some true)
    (sup0 : PySem.W.nsIn K mainGlobals "super" = some none)
    (top0 : (l.prog.main.scope.names.lookup ("super" : Str)).isSome = false)
    (sta0 : PySem.W.nsIn K PySem.cStatics "thirdparty.any" = some none)
    (aXBadNumber : PySem.W.nsIn K mainGlobals "BadNumber" = some (some (.ref XBadNumber)))
    (exBadNumber : PySem.W.subIn K (.ref XBadNumber) (.type "BaseException") = some true)
    (tyBadNumber : PySem.W.typeIn K (.ref XBadNumber) = some (.type "type"))
    (kpBadNumber : PySem.W.keepIn K (.ref XBadNumber) = true)
    (xiBadNumber : PySem.W.excIn K XBadNumber veT "ValueError.__new__" = true)
    (icSpellError : PySem.W.hasDictIn K XSpellError = true)
    (sbBadText_SpellError : PySem.W.subIn K (.ref XBadText) (.ref XSpellError) = some true)
    (sbBadMachine_SpellError : PySem.W.subIn K (.ref XBadMachine) (.ref XSpellError) = some true)
    (sbBadNumber_SpellError : PySem.W.subIn K (.ref XBadNumber) (.ref XSpellError) = some true)
    (hdSpellError : PySem.W.hasDictIn K XSpellError = true)
    (gaSpellError : PySem.W.findIn K (.ref XSpellError) "__getattribute__" = some (some (.builtin "BaseException.__getattribute__")))
    (ggSpellError : PySem.W.findIn K (.ref XSpellError) "__getattr__" = some none)
    (i5SpellError : PySem.W.findIn K (.ref XSpellError) "__class__" = some (some (.builtin "object.__class__")))
    (i8SpellError : PySem.W.mroIn K XSpellError (.type "object") = some true)
    (svSpellError : PySem.W.subIn K (.ref XSpellError) (.type "ValueError") = some true)
    (znSpellError : PySem.W.subIn K (.type "NoneType") (.ref XSpellError) = some false)
    (i6 : PySem.W.specialIn K (.builtin "object.__class__") "__get__" = some (some (.builtin "getset_descriptor.__get__")))
    (i7 : PySem.W.takesIn K (.builtin "object.__class__") = some true)
    (hdBadText : PySem.W.hasDictIn K XBadText = true)
    (gaBadText : PySem.W.findIn K (.ref XBadText) "__getattribute__" = some (some (.builtin "BaseException.__getattribute__")))
    (ggBadText : PySem.W.findIn K (.ref XBadText) "__getattr__" = some none)
    (i5BadText : PySem.W.findIn K (.ref XBadText) "__class__" = some (some (.builtin "object.__class__")))
    (i8BadText : PySem.W.mroIn K XBadText (.type "object") = some true)
    (svBadText : PySem.W.subIn K (.ref XBadText) (.type "ValueError") = some true)
    (znBadText : PySem.W.subIn K (.type "NoneType") (.ref XBadText) = some false)
    (i5BadMachine : PySem.W.findIn K (.ref XBadMachine) "__class__" = some (some (.builtin "object.__class__")))
    (i8BadMachine : PySem.W.mroIn K XBadMachine (.type "object") = some true)
    (znBadMachine : PySem.W.subIn K (.type "NoneType") (.ref XBadMachine) = some false)
    (hdBadNumber : PySem.W.hasDictIn K XBadNumber = true)
    (gaBadNumber : PySem.W.findIn K (.ref XBadNumber) "__getattribute__" = some (some (.builtin "BaseException.__getattribute__")))
    (ggBadNumber : PySem.W.findIn K (.ref XBadNumber) "__getattr__" = some none)
    (i5BadNumber : PySem.W.findIn K (.ref XBadNumber) "__class__" = some (some (.builtin "object.__class__")))
    (i8BadNumber : PySem.W.mroIn K XBadNumber (.type "object") = some true)
    (svBadNumber : PySem.W.subIn K (.ref XBadNumber) (.type "ValueError") = some true)
    (znBadNumber : PySem.W.subIn K (.type "NoneType") (.ref XBadNumber) = some false)
    (sbBadText_BadText : PySem.W.subIn K (.ref XBadText) (.ref XBadText) = some true)
    (sbSpellError_BadText : PySem.W.subIn K (.ref XSpellError) (.ref XBadText) = some false)
    (sbBadMachine_BadText : PySem.W.subIn K (.ref XBadMachine) (.ref XBadText) = some false)
    (sbBadNumber_BadText : PySem.W.subIn K (.ref XBadNumber) (.ref XBadText) = some false)
    (sbBadNumber_BadNumber : PySem.W.subIn K (.ref XBadNumber) (.ref XBadNumber) = some true)
    (sbSpellError_BadNumber : PySem.W.subIn K (.ref XSpellError) (.ref XBadNumber) = some false)
    (sbBadText_BadNumber : PySem.W.subIn K (.ref XBadText) (.ref XBadNumber) = some false)
    (sbBadMachine_BadNumber : PySem.W.subIn K (.ref XBadMachine) (.ref XBadNumber) = some false)
    (aL_begin : PySem.W.nsIn K mainGlobals "_law_begin" = some (some (.ref fL_begin)))
    (lL_begin : K.lookup fL_begin = some ⟨ocL_begin, odL_begin, .func (PySem.W.fnOf "_law_begin" "_law_begin" (defArgs sBegin) (defBody sBegin) (defScope sBegin) .none kVL_begin dcL_begin pmL_begin anL_begin cdL_begin ctL_begin), slL_begin⟩)
    (cL_begin : PySem.W.codeIn K cdL_begin "_law_begin" = true)
    (kL_begin : PySem.W.keepIn K (.ref fL_begin) = true)
    (aL_take : PySem.W.nsIn K mainGlobals "_law_take" = some (some (.ref fL_take)))
    (lL_take : K.lookup fL_take = some ⟨ocL_take, odL_take, .func (PySem.W.fnOf "_law_take" "_law_take" (defArgs sTake) (defBody sTake) (defScope sTake) .none kVL_take dcL_take pmL_take anL_take cdL_take ctL_take), slL_take⟩)
    (cL_take : PySem.W.codeIn K cdL_take "_law_take" = true)
    (kL_take : PySem.W.keepIn K (.ref fL_take) = true)
    (aLaw : PySem.W.nsIn K mainGlobals "law" = some (some (.ref fLaw)))
    (lLaw : K.lookup fLaw = some ⟨ocLaw, odLaw, .func (PySem.W.fnOf "law" "law" (defArgs s_law) (defBody s_law) (defScope s_law) .none kVLaw dcLaw pmLaw anLaw cdLaw ctLaw), slLaw⟩)
    (cLaw : PySem.W.codeIn K cdLaw "law" = true)
    (kLaw : PySem.W.keepIn K (.ref fLaw) = true)
    (eqLw : cdLaw = .ref cLw)
    (lkLw : K.lookup cLw = some ⟨eLw, ddLw, .fields vsLw, slLw⟩)
    (v11Lw : vsLw[11]? = some (.ref PLw))
    (nPLw : K.lookup PLw = none) :
    ∃ fd : FuncData, (∀ e ∈ tabs3 K mg, K.lookup e.2.1 = none) ∧ (∀ (s : Shared) (v : Value), BindsTo s fd ⟨[v], []⟩ [("_law_script", v)]) ∧ ∀ base : Heap, (∃ mm, base.Ns sysModules mm) → (∀ e ∈ tabs3 K mg, LamX.TabB base mg e.1 e.2.1) → FnOkG l.prog w K mg base CX0 6 fa fd ["_law_script"] (spLawT K mg) := by
  have e := hfa.symm.trans (PySem.W.mg_of X G aLaw)
  cases e
  have gCMachine : mg (cn 3) = some (.ref CMachine) := PySem.W.mg_of X G aCMachine
  have clCMachine : Cls K CMachine := ⟨pgMachine, hdMachine, poMachine, saMachine⟩
  have noCMachine : ∀ f ∈ fnm 3, NoAttr K CMachine f := by
    intro f hf
    simp only [fnm, List.mem_cons, List.not_mem_nil, or_false] at hf
    rcases hf with rfl
    · exact n_Machine_m_rows
  have FMI : FunD K "__init__" "Machine.__init__" (defArgs s_Machine__init_) (defBody s_Machine__init_) (defScope s_Machine__init_) [] [] fMI _ := ⟨⟨ocMI, odMI, .none, kVMI, dcMI, pmMI, anMI, cdMI, ctMI, slMI, rfl, lMI, cMI, .inl ⟨rfl, rfl⟩, .inl rfl⟩, kMI⟩
  have gXSpellError : mg (en 0) = some (.ref XSpellError) := PySem.W.mg_of X G aXSpellError
  have gXBadText : mg (en 2) = some (.ref XBadText) := PySem.W.mg_of X G aXBadText
  have gXBadMachine : mg (en 7) = some (.ref XBadMachine) := PySem.W.mg_of X G aXBadMachine
  have oBadMachine : OexC K XBadMachine := ⟨⟨nmBadMachine, qnBadMachine, NBadMachine, bsBadMachine, bmBadMachine, snBadMachine, sbBadMachine, abBadMachine, coBadMachine, ddBadMachine, kaBadMachine, kbBadMachine, kcBadMachine, kdBadMachine, keBadMachine, lcBadMachine, rvBadMachine⟩, saBadMachine, exBadMachine, tyBadMachine, kpBadMachine⟩
  have fBadMachine : XfC K XBadMachine := ⟨gaBadMachine, ggBadMachine, exBadMachine, hdBadMachine⟩
  have gXBadNumber : mg (en 9) = some (.ref XBadNumber) := PySem.W.mg_of X G aXBadNumber
  have ISpellError : XiC K XSpellError := xiC_mk hdSpellError gaSpellError ggSpellError exSpellError i5SpellError i6 i7 i8SpellError
  have IBadText : XiC K XBadText := xiC_mk hdBadText gaBadText ggBadText exBadText i5BadText i6 i7 i8BadText
  have IBadMachine : XiC K XBadMachine := xiC_mk hdBadMachine gaBadMachine ggBadMachine exBadMachine i5BadMachine i6 i7 i8BadMachine
  have IBadNumber : XiC K XBadNumber := xiC_mk hdBadNumber gaBadNumber ggBadNumber exBadNumber i5BadNumber i6 i7 i8BadNumber
  have A : All l.prog K mg := {
    B := ⟨PySem.W.mg_none_of X G z_abs, PySem.W.mg_none_of X G z_all, PySem.W.mg_none_of X G z_any, PySem.W.mg_none_of X G z_bool, PySem.W.mg_none_of X G z_dict, PySem.W.mg_none_of X G z_divmod, PySem.W.mg_none_of X G z_enumerate, PySem.W.mg_none_of X G z_int, PySem.W.mg_none_of X G z_isinstance, PySem.W.mg_none_of X G z_len, PySem.W.mg_none_of X G z_list, PySem.W.mg_none_of X G z_max, PySem.W.mg_none_of X G z_min, PySem.W.mg_none_of X G z_range, PySem.W.mg_none_of X G z_repr, PySem.W.mg_none_of X G z_set, PySem.W.mg_none_of X G z_sorted, PySem.W.mg_none_of X G z_str, PySem.W.mg_none_of X G z_sum, PySem.W.mg_none_of X G z_tuple, PySem.W.mg_none_of X G z_zip⟩,
    k_LETTERS := ⟨_, PySem.W.mg_of X G g_LETTERS⟩,
    k_LONGEST := ⟨_, PySem.W.mg_of X G g_LONGEST⟩,
    k_MOST_ROWS := ⟨_, PySem.W.mg_of X G g_MOST_ROWS⟩,
    d_is_integer := def3_mk (fun_mk (st := s_is_integer) lis_integer cis_integer kis_integer) (PySem.W.mg_of X G ais_integer) ((fun_mk (st := s_is_integer) lis_integer cis_integer kis_integer).binds (ps := ["thing"]) fun _ _ _ _ _ _ us hl => match us, hl with | [_], _ => rfl) (fun _ _ _ _ _ _ ws hl => match ws, hl with | [_], _ => rfl),
    d_is_text := def3_mk (fun_mk (st := s_is_text) lis_text cis_text kis_text) (PySem.W.mg_of X G ais_text) ((fun_mk (st := s_is_text) lis_text cis_text kis_text).binds (ps := ["thing"]) fun _ _ _ _ _ _ us hl => match us, hl with | [_], _ => rfl) (fun _ _ _ _ _ _ ws hl => match ws, hl with | [_], _ => rfl),
    d_is_word := def3_mk (fun_mk (st := s_is_word) lis_word cis_word kis_word) (PySem.W.mg_of X G ais_word) ((fun_mk (st := s_is_word) lis_word cis_word kis_word).binds (ps := ["thing"]) fun _ _ _ _ _ _ us hl => match us, hl with | [_], _ => rfl) (fun _ _ _ _ _ _ ws hl => match ws, hl with | [_], _ => rfl),
    d_is_machine_row := def3_mk (fun_mk (st := s_is_machine_row) lis_machine_row cis_machine_row kis_machine_row) (PySem.W.mg_of X G ais_machine_row) ((fun_mk (st := s_is_machine_row) lis_machine_row cis_machine_row kis_machine_row).binds (ps := ["thing", "many"]) fun _ _ _ _ _ _ us hl => match us, hl with | [_, _], _ => rfl) (fun _ _ _ _ _ _ ws hl => match ws, hl with | [_, _], _ => rfl),
    i_Machine__init_ := ⟨CMachine, fMI, _, gCMachine, ⟨mkMI, aMI, iMI, kcMI⟩, FMI, fun s us X hl => (match us, hl with | [_, _], _ => .of_eq rfl), ⟨fun s us ws X h1 h2 => (match us, ws, h1, h2 with | [_], [_], _, _ => .of_eq rfl), fun r1 r2 => r1.append r2⟩⟩,
    p_Machine_rows := ⟨CMachine, qp_Machine_rows, fp_Machine_rows, _, gCMachine, ⟨atp_Machine_rows, gtp_Machine_rows, tkp_Machine_rows, ⟨_, ap_Machine_rows⟩⟩, fun_mk (st := s_Machine_rows) lp_Machine_rows cp_Machine_rows kp_Machine_rows, (fun_mk (st := s_Machine_rows) lp_Machine_rows cp_Machine_rows kp_Machine_rows).binds (ps := ["self"]) fun _ _ _ _ _ _ us hl => match us, hl with | [_], _ => rfl⟩,
    m_Machine__len_ := ⟨CMachine, fm_Machine__len_, _, gCMachine, ⟨am_Machine__len_, im_Machine__len_, km_Machine__len_⟩, fun_mk (st := s_Machine__len_) lm_Machine__len_ cm_Machine__len_ km_Machine__len_, ((fun_mk (st := s_Machine__len_) lm_Machine__len_ cm_Machine__len_ km_Machine__len_).binds (ps := ["self"]) fun _ _ _ _ _ _ us hl => match us, hl with | [_], _ => rfl), hm_Machine__len_⟩,
    d_goals_of := def3_mk (fun_mk (st := s_goals_of) lgoals_of cgoals_of kgoals_of) (PySem.W.mg_of X G agoals_of) ((fun_mk (st := s_goals_of) lgoals_of cgoals_of kgoals_of).binds (ps := ["rows"]) fun _ _ _ _ _ _ us hl => match us, hl with | [_], _ => rfl) (fun _ _ _ _ _ _ ws hl => match ws, hl with | [_], _ => rfl),
    d_edges_of := def3_mk (fun_mk (st := s_edges_of) ledges_of cedges_of kedges_of) (PySem.W.mg_of X G aedges_of) ((fun_mk (st := s_edges_of) ledges_of cedges_of kedges_of).binds (ps := ["rows"]) fun _ _ _ _ _ _ us hl => match us, hl with | [_], _ => rfl) (fun _ _ _ _ _ _ ws hl => match ws, hl with | [_], _ => rfl),
    d_shows_rate := def3_mk (fun_mk (st := s_shows_rate) lshows_rate cshows_rate kshows_rate) (PySem.W.mg_of X G ashows_rate) ((fun_mk (st := s_shows_rate) lshows_rate cshows_rate kshows_rate).binds (ps := ["machine", "p", "q", "thing"]) fun _ _ _ _ _ _ us hl => match us, hl with | [_, _, _, _], _ => rfl) (fun _ _ _ _ _ _ ws hl => match ws, hl with | [_, _, _, _], _ => rfl),
    d_L_pick := def3_mk (fun_mk (st := s_L_pick) lL_pick cL_pick kL_pick) (PySem.W.mg_of X G aL_pick) ((fun_mk (st := s_L_pick) lL_pick cL_pick kL_pick).binds (ps := ["_law_draw", "_law_some"]) fun _ _ _ _ _ _ us hl => match us, hl with | [_, _], _ => rfl) (fun _ _ _ _ _ _ ws hl => match ws, hl with | [_, _], _ => rfl),
    d_L_caught := def3_mk (fun_mk (st := s_L_caught) lL_caught cL_caught kL_caught) (PySem.W.mg_of X G aL_caught) ((fun_mk (st := s_L_caught) lL_caught cL_caught kL_caught).binds (ps := ["_law_work"]) fun _ _ _ _ _ _ us hl => match us, hl with | [_], _ => rfl) (fun _ _ _ _ _ _ ws hl => match ws, hl with | [_], _ => rfl),
    d_L_machine_rows := def3_mk (fun_mk (st := s_L_machine_rows) lL_machine_rows cL_machine_rows kL_machine_rows) (PySem.W.mg_of X G aL_machine_rows) ((fun_mk (st := s_L_machine_rows) lL_machine_rows cL_machine_rows kL_machine_rows).binds (ps := ["_law_draw", "_law_many"]) fun _ _ _ _ _ _ us hl => match us, hl with | [_, _], _ => rfl) (fun _ _ _ _ _ _ ws hl => match ws, hl with | [_, _], _ => rfl),
    d_L_due := def3_mk (fun_mk (st := s_L_due) lL_due cL_due kL_due) (PySem.W.mg_of X G aL_due) ((fun_mk (st := s_L_due) lL_due cL_due kL_due).binds (ps := ["_law_rows", "_law_upper", "_law_lower", "_law_matter"]) fun _ _ _ _ _ _ us hl => match us, hl with | [_, _, _, _], _ => rfl) (fun _ _ _ _ _ _ ws hl => match ws, hl with | [_, _, _, _], _ => rfl),
    d_L_worths := def3_mk (fun_mk (st := s_L_worths) lL_worths cL_worths kL_worths) (PySem.W.mg_of X G aL_worths) ((fun_mk (st := s_L_worths) lL_worths cL_worths kL_worths).binds (ps := ["_law_rows", "_law_upper", "_law_lower"]) fun _ _ _ _ _ _ us hl => match us, hl with | [_, _, _], _ => rfl) (fun _ _ _ _ _ _ ws hl => match ws, hl with | [_, _, _], _ => rfl),
    d_L_bent := def3_mk (fun_mk (st := s_L_bent) lL_bent cL_bent kL_bent) (PySem.W.mg_of X G aL_bent) ((fun_mk (st := s_L_bent) lL_bent cL_bent kL_bent).binds (ps := ["_law_draw", "_law_worths_here"]) fun _ _ _ _ _ _ us hl => match us, hl with | [_, _], _ => rfl) (fun _ _ _ _ _ _ ws hl => match ws, hl with | [_, _], _ => rfl),
    cf3 := cf_mk gCMachine clCMachine noCMachine,
    oc3 := oc_mk gCMachine ⟨o1Machine, o2Machine, o3Machine, o4Machine, o5Machine⟩,
    nf3 := nf_mk gCMachine (by
      intro ty hty
      simp only [kinds7, List.mem_cons, List.not_mem_nil, or_false] at hty
      rcases hty with rfl | rfl | rfl | rfl | rfl | rfl | rfl
      · exact nsNoneTypeMachine
      · exact nsboolMachine
      · exact nsintMachine
      · exact nsstrMachine
      · exact nslistMachine
      · exact nstupleMachine
      · exact nsdictMachine) hdMachine ntMachine,
    b_repr := PySem.W.mg_none_of X G z_repr,
    x_SpellError := ⟨XSpellError, gXSpellError, xiSpellError, kpSpellError, exSpellError, tySpellError⟩,
    x_BadText := ⟨XBadText, gXBadText, xiBadText, kpBadText, exBadText, tyBadText⟩,
    x_BadMachine := ⟨XBadMachine, fiBadMachine, _, gXBadMachine, oBadMachine, iiBadMachine, tiBadMachine, fun s us X hl => (match us, hl with | [_, _], _ => .of_eq rfl), fBadMachine, noBadMachine, ⟨fun s us ws X h1 h2 => (match us, ws, h1, h2 with | [_], [_], _, _ => .of_eq rfl), fun r1 r2 => r1.append r2⟩, fun w base => xi_ok liBadMachine rfl cdBadMachine lkBadMachine vsBadMachine flBadMachine ceBadMachine oBadMachine noBadMachine suBadMachine msBadMachine svBadMachine (PySem.W.mg_none_of X G sup0) top0 sta0 rfl rfl rfl rfl rfl rfl rfl rfl rfl (by decide) (fun L => rfl) (fun L => rfl) (by decide) (by decide)⟩,
    xf_BadMachine := ⟨XBadMachine, gXBadMachine, fBadMachine, by intro f hf; simp only [ef, List.mem_cons, List.not_mem_nil, or_false] at hf; subst hf; exact noBadMachine⟩,
    x_BadNumber := ⟨XBadNumber, gXBadNumber, xiBadNumber, kpBadNumber, exBadNumber, tyBadNumber⟩,
    ex_SpellError := ⟨XSpellError, gXSpellError, by
      intro c hc C hC
      simp only [List.mem_cons, List.not_mem_nil, or_false] at hc
      rcases hc with rfl | rfl | rfl | rfl
      · cases hC.symm.trans gXBadText; exact exm3 exSpellError icSpellError tySpellError sbBadText_SpellError
      · cases hC.symm.trans gXBadMachine; exact exm3 exSpellError icSpellError tySpellError sbBadMachine_SpellError
      · cases hC.symm.trans gXBadNumber; exact exm3 exSpellError icSpellError tySpellError sbBadNumber_SpellError⟩,
    ei_BadText := ⟨XBadText, gXBadText, kit_ref hdBadText tyBadText sbBadText_BadText znBadText, by
      intro c hc C hC
      simp only [List.mem_cons, List.not_mem_nil, or_false] at hc
      rcases hc with rfl | rfl | rfl | rfl
      · cases hC.symm.trans gXSpellError; exact ⟨ISpellError, kit_ref hdBadText tyBadText sbBadText_BadText sbSpellError_BadText⟩
      · cases hC.symm.trans gXBadText; exact ⟨IBadText, kit_ref hdBadText tyBadText sbBadText_BadText sbBadText_BadText⟩
      · cases hC.symm.trans gXBadMachine; exact ⟨IBadMachine, kit_ref hdBadText tyBadText sbBadText_BadText sbBadMachine_BadText⟩
      · cases hC.symm.trans gXBadNumber; exact ⟨IBadNumber, kit_ref hdBadText tyBadText sbBadText_BadText sbBadNumber_BadText⟩⟩,
    ei_BadNumber := ⟨XBadNumber, gXBadNumber, kit_ref hdBadNumber tyBadNumber sbBadNumber_BadNumber znBadNumber, by
      intro c hc C hC
      simp only [List.mem_cons, List.not_mem_nil, or_false] at hc
      rcases hc with rfl | rfl | rfl | rfl
      · cases hC.symm.trans gXSpellError; exact ⟨ISpellError, kit_ref hdBadNumber tyBadNumber sbBadNumber_BadNumber sbSpellError_BadNumber⟩
      · cases hC.symm.trans gXBadText; exact ⟨IBadText, kit_ref hdBadNumber tyBadNumber sbBadNumber_BadNumber sbBadText_BadNumber⟩
      · cases hC.symm.trans gXBadMachine; exact ⟨IBadMachine, kit_ref hdBadNumber tyBadNumber sbBadNumber_BadNumber sbBadMachine_BadNumber⟩
      · cases hC.symm.trans gXBadNumber; exact ⟨IBadNumber, kit_ref hdBadNumber tyBadNumber sbBadNumber_BadNumber sbBadNumber_BadNumber⟩⟩,
    d_L_begin := def3_mk (fun_mk (st := sBegin) lL_begin cL_begin kL_begin) (PySem.W.mg_of X G aL_begin) ((fun_mk (st := sBegin) lL_begin cL_begin kL_begin).binds (ps := ["_law_script"]) fun _ _ _ _ _ _ us hl => match us, hl with | [_], _ => rfl) (fun _ _ _ _ _ _ ws hl => match ws, hl with | [_], _ => rfl),
    d_L_take := def3_mk (fun_mk (st := sTake) lL_take cL_take kL_take) (PySem.W.mg_of X G aL_take) ((fun_mk (st := sTake) lL_take cL_take kL_take).binds (ps := ["_law_draw", "_law_size"]) fun _ _ _ _ _ _ us hl => match us, hl with | [_, _], _ => rfl) (fun _ _ _ _ _ _ ws hl => match ws, hl with | [_, _], _ => rfl) }
  have tL : tabOf K mg "law" = some (cLw, PLw, ("law" : Str) ++ ".<locals>." ++ "<lambda>") := tabOf_mk hfa lLaw rfl eqLw lkLw rfl v11Lw
  exact ⟨_, no_one rfl tL nPLw, fun s v => (.of_eq rfl : BindsTo s (PySem.W.fnOf "law" "law" (defArgs s_law) (defBody s_law) (defScope s_law) .none kVLaw dcLaw pmLaw anLaw cdLaw ctLaw) ⟨[v], []⟩ [("_law_script", v)]), fun base hb hTB => c_law A hb k63_law (fun_mk (st := s_law) lLaw cLaw kLaw) (fun cdv h => by cases h; rw [eqLw]; exact lamT_one rfl tL hTB)⟩
end G69
namespace G69
open PySem PySem.Spec PyProof.Rows L2
set_option maxHeartbeats 0 in
theorem all_K {w : World} {K : PySem.W.Frag} {h : Heap} {mg : Str → Option Value} {fa : Addr} (X : K.In h) (G : h.Ns mainGlobals mg) (hfa : mg "law" = some (.ref fa)) (c : SaysK zChk zFn zVa K) :
    ∃ fd : FuncData, (∀ e ∈ tabs3 K mg, K.lookup e.2.1 = none) ∧ (∀ (s : Shared) (v : Value), BindsTo s fd ⟨[v], []⟩ [("_law_script", v)]) ∧ ∀ base : Heap, (∃ mm, base.Ns sysModules mm) → (∀ e ∈ tabs3 K mg, LamX.TabB base mg e.1 e.2.1) → FnOkG PySem.Challenge.rw_meantword_k63_worths_judged.prog w K mg base CX0 6 fa fd ["_law_script"] (spLawT K mg) := by
  have c0 : zChk K = true := c.chk_
  unfold zChk at c0
  obtain ⟨d0, c0⟩ := He.ba c0
  obtain ⟨w_z_abs, w_z_all, w_z_any, w_z_bool, w_z_dict, w_z_divmod, w_z_enumerate, w_z_int, w_z_isinstance, w_z_len, w_z_list, w_z_max, w_z_min, w_z_range, w_z_repr, w_z_set⟩ : zCkP0 K := of_decide_eq_true d0
  obtain ⟨d1, c0⟩ := He.ba c0
  obtain ⟨w_z_sorted, w_z_str, w_z_sum, w_z_tuple, w_z_zip, w_g_LETTERS, w_g_LONGEST, w_g_MOST_ROWS, w_ais_integer, w_lis_integer, w_cis_integer, w_kis_integer, w_ais_text, w_lis_text, w_cis_text, w_kis_text⟩ : zCkP1 K := of_decide_eq_true d1
  obtain ⟨d2, c0⟩ := He.ba c0
  obtain ⟨w_ais_word, w_lis_word, w_cis_word, w_kis_word, w_ais_machine_row, w_lis_machine_row, w_cis_machine_row, w_kis_machine_row, w_aCMachine, w_pgMachine, w_hdMachine, w_poMachine, w_saMachine, w_n_Machine_m_rows, w_aMI, w_lMI⟩ : zCkP2 K := of_decide_eq_true d2
  obtain ⟨d3, c0⟩ := He.ba c0
  obtain ⟨w_cMI, w_kMI, w_iMI, w_mkMI, w_kcMI, w_atp_Machine_rows, w_gtp_Machine_rows, w_tkp_Machine_rows, w_ap_Machine_rows, w_lp_Machine_rows, w_cp_Machine_rows, w_kp_Machine_rows, w_am_Machine__len_, w_lm_Machine__len_, w_cm_Machine__len_, w_km_Machine__len_⟩ : zCkP3 K := of_decide_eq_true d3
  obtain ⟨d4, c0⟩ := He.ba c0
  obtain ⟨w_im_Machine__len_, w_hm_Machine__len_, w_agoals_of, w_lgoals_of, w_cgoals_of, w_kgoals_of, w_aedges_of, w_ledges_of, w_cedges_of, w_kedges_of, w_ashows_rate, w_lshows_rate, w_cshows_rate, w_kshows_rate, w_aL_pick, w_lL_pick⟩ : zCkP4 K := of_decide_eq_true d4
  obtain ⟨d5, c0⟩ := He.ba c0
  obtain ⟨w_cL_pick, w_kL_pick, w_aL_caught, w_lL_caught, w_cL_caught, w_kL_caught, w_aL_machine_rows, w_lL_machine_rows, w_cL_machine_rows, w_kL_machine_rows, w_aL_due, w_lL_due, w_cL_due, w_kL_due, w_aL_worths, w_lL_worths⟩ : zCkP5 K := of_decide_eq_true d5
  obtain ⟨d6, c0⟩ := He.ba c0
  obtain ⟨w_cL_worths, w_kL_worths, w_aL_bent, w_lL_bent, w_cL_bent, w_kL_bent, w_o1Machine, w_o2Machine, w_o3Machine, w_o4Machine, w_o5Machine, w_ntMachine, w_nsNoneTypeMachine, w_nsboolMachine, w_nsintMachine, w_nsstrMachine⟩ : zCkP6 K := of_decide_eq_true d6
  obtain ⟨d7, c0⟩ := He.ba c0
  obtain ⟨w_nslistMachine, w_nstupleMachine, w_nsdictMachine, w_aXSpellError, w_exSpellError, w_tySpellError, w_kpSpellError, w_xiSpellError, w_aXBadText, w_exBadText, w_tyBadText, w_kpBadText, w_xiBadText, w_aXBadMachine, w_exBadMachine, w_tyBadMachine⟩ : zCkP7 K := of_decide_eq_true d7
  obtain ⟨d8, c0⟩ := He.ba c0
  obtain ⟨w_kpBadMachine, w_lcBadMachine, w_rvBadMachine, w_saBadMachine, w_gaBadMachine, w_ggBadMachine, w_hdBadMachine, w_noBadMachine, w_iiBadMachine, w_tiBadMachine, w_liBadMachine, wc_liBadMachine, w_cdBadMachine, w_lkBadMachine, w_vsBadMachine, w_flBadMachine⟩ : zCkP8 K := of_decide_eq_true d8
  obtain ⟨d9, c0⟩ := He.ba c0
  obtain ⟨w_ceBadMachine, w_suBadMachine, w_msBadMachine, w_svBadMachine, w_sup0, w_top0, w_sta0, w_aXBadNumber, w_exBadNumber, w_tyBadNumber, w_kpBadNumber, w_xiBadNumber, w_icSpellError, w_sbBadText_SpellError, w_sbBadMachine_SpellError, w_sbBadNumber_SpellError⟩ : zCkP9 K := of_decide_eq_true d9
  obtain ⟨d10, c0⟩ := He.ba c0
  obtain ⟨w_hdSpellError, w_gaSpellError, w_ggSpellError, w_i5SpellError, w_i8SpellError, w_svSpellError, w_znSpellError, w_i6, w_i7, w_hdBadText, w_gaBadText, w_ggBadText, w_i5BadText, w_i8BadText, w_svBadText, w_znBadText⟩ : zCkP10 K := of_decide_eq_true d10
  obtain ⟨d11, c0⟩ := He.ba c0
  obtain ⟨w_i5BadMachine, w_i8BadMachine, w_znBadMachine, w_hdBadNumber, w_gaBadNumber, w_ggBadNumber, w_i5BadNumber, w_i8BadNumber, w_svBadNumber, w_znBadNumber, w_sbBadText_BadText, w_sbSpellError_BadText, w_sbBadMachine_BadText, w_sbBadNumber_BadText, w_sbBadNumber_BadNumber, w_sbSpellError_BadNumber⟩ : zCkP11 K := of_decide_eq_true d11
  obtain ⟨d12, c0⟩ := He.ba c0
  obtain ⟨w_sbBadText_BadNumber, w_sbBadMachine_BadNumber, w_aL_begin, w_lL_begin, w_cL_begin, w_kL_begin, w_aL_take, w_lL_take, w_cL_take, w_kL_take, w_aLaw, w_lLaw, w_cLaw, w_kLaw, w_eqLw, w_lkLw⟩ : zCkP12 K := of_decide_eq_true d12
  obtain ⟨w_v11Lw, w_nPLw⟩ : zCkP13 K := of_decide_eq_true c0
  exact all_mk (l := PySem.Challenge.rw_meantword_k63_worths_judged) X G hfa w_z_abs w_z_all w_z_any w_z_bool w_z_dict w_z_divmod w_z_enumerate w_z_int w_z_isinstance w_z_len w_z_list w_z_max w_z_min w_z_range w_z_repr w_z_set w_z_sorted w_z_str w_z_sum w_z_tuple w_z_zip w_g_LETTERS w_g_LONGEST w_g_MOST_ROWS w_ais_integer (fn_isO (c.fn_ 0 rfl rfl) w_lis_integer) w_cis_integer w_kis_integer w_ais_text (fn_isO (c.fn_ 1 rfl rfl) w_lis_text) w_cis_text w_kis_text w_ais_word (fn_isO (c.fn_ 2 rfl rfl) w_lis_word) w_cis_word w_kis_word w_ais_machine_row (fn_isO (c.fn_ 3 rfl rfl) w_lis_machine_row) w_cis_machine_row w_kis_machine_row w_aCMachine w_pgMachine w_hdMachine w_poMachine w_saMachine w_n_Machine_m_rows w_aMI (fn_isO (c.fn_ 4 rfl rfl) w_lMI) w_cMI w_kMI w_iMI w_mkMI w_kcMI w_atp_Machine_rows w_gtp_Machine_rows w_tkp_Machine_rows w_ap_Machine_rows (fn_isO (c.fn_ 5 rfl rfl) w_lp_Machine_rows) w_cp_Machine_rows w_kp_Machine_rows w_am_Machine__len_ (fn_isO (c.fn_ 6 rfl rfl) w_lm_Machine__len_) w_cm_Machine__len_ w_km_Machine__len_ w_im_Machine__len_ w_hm_Machine__len_ w_agoals_of (fn_isO (c.fn_ 7 rfl rfl) w_lgoals_of) w_cgoals_of w_kgoals_of w_aedges_of (fn_isO (c.fn_ 8 rfl rfl) w_ledges_of) w_cedges_of w_kedges_of w_ashows_rate (fn_isO (c.fn_ 9 rfl rfl) w_lshows_rate) w_cshows_rate w_kshows_rate w_aL_pick (fn_isO (c.fn_ 10 rfl rfl) w_lL_pick) w_cL_pick w_kL_pick w_aL_caught (fn_isO (c.fn_ 11 rfl rfl) w_lL_caught) w_cL_caught w_kL_caught w_aL_machine_rows (fn_isO (c.fn_ 12 rfl rfl) w_lL_machine_rows) w_cL_machine_rows w_kL_machine_rows w_aL_due (fn_isO (c.fn_ 13 rfl rfl) w_lL_due) w_cL_due w_kL_due w_aL_worths (fn_isO (c.fn_ 14 rfl rfl) w_lL_worths) w_cL_worths w_kL_worths w_aL_bent (fn_isO (c.fn_ 15 rfl rfl) w_lL_bent) w_cL_bent w_kL_bent w_o1Machine w_o2Machine w_o3Machine w_o4Machine w_o5Machine w_ntMachine w_nsNoneTypeMachine w_nsboolMachine w_nsintMachine w_nsstrMachine w_nslistMachine w_nstupleMachine w_nsdictMachine w_aXSpellError w_exSpellError w_tySpellError w_kpSpellError w_xiSpellError w_aXBadText w_exBadText w_tyBadText w_kpBadText w_xiBadText w_aXBadMachine w_exBadMachine w_tyBadMachine w_kpBadMachine (exc_is w_lcBadMachine) w_rvBadMachine w_saBadMachine w_gaBadMachine w_ggBadMachine w_hdBadMachine w_noBadMachine w_iiBadMachine w_tiBadMachine (fn_isKc (c.fn_ 16 rfl rfl) w_liBadMachine wc_liBadMachine) w_cdBadMachine (fields_is w_lkBadMachine) w_vsBadMachine w_flBadMachine (cell_is w_ceBadMachine) w_suBadMachine w_msBadMachine w_svBadMachine w_sup0 w_top0 w_sta0 w_aXBadNumber w_exBadNumber w_tyBadNumber w_kpBadNumber w_xiBadNumber w_icSpellError w_sbBadText_SpellError w_sbBadMachine_SpellError w_sbBadNumber_SpellError w_hdSpellError w_gaSpellError w_ggSpellError w_i5SpellError w_i8SpellError w_svSpellError w_znSpellError w_i6 w_i7 w_hdBadText w_gaBadText w_ggBadText w_i5BadText w_i8BadText w_svBadText w_znBadText w_i5BadMachine w_i8BadMachine w_znBadMachine w_hdBadNumber w_gaBadNumber w_ggBadNumber w_i5BadNumber w_i8BadNumber w_svBadNumber w_znBadNumber w_sbBadText_BadText w_sbSpellError_BadText w_sbBadMachine_BadText w_sbBadNumber_BadText w_sbBadNumber_BadNumber w_sbSpellError_BadNumber w_sbBadText_BadNumber w_sbBadMachine_BadNumber w_aL_begin (fn_isO (c.fn_ 17 rfl rfl) w_lL_begin) w_cL_begin w_kL_begin w_aL_take (fn_isO (c.fn_ 18 rfl rfl) w_lL_take) w_cL_take w_kL_take w_aLaw (fn_isO (c.fn_ 19 rfl rfl) w_lLaw) w_cLaw w_kLaw w_eqLw (fields_is w_lkLw) w_v11Lw (no_is w_nPLw)
end G69
open PySem PySem.W PyProof.Rows
set_option maxRecDepth 100000 in
set_option maxHeartbeats 0 in
theorem PySem.Challenge.cw_meantword_k63_worths_judged_holds : PySem.Challenge.rw_meantword_k63_worths_judged.Holds := by
  w_on; o_law
  refine HandSHeadRun.head_any (r := OpenLaw.row PySem.Challenge.rw_meantword_k63_worths_judged) (q := G69.zView) (H := G69.hookT G69.zChk G69.zFn G69.zVa) (ob := fun s => G69.obsT G69.zChk G69.zFn (HandSHeadRun.getT s)) (M := 40000) (loose := G69.zLoose) (d := HandSHeadRun.topDef (OpenLaw.row PySem.Challenge.rw_meantword_k63_worths_judged).prog 29) (kwd := []) G69.obsT_eq (by kernel_rfl) (fun s => by kernel_rfl) G69.zRun (by kernel_rfl) (by kernel_rfl) (by kernel_rfl) (by rfl) (by first | assumption | decide +kernel) (by decide +kernel) ⟨rfl, rfl, rfl, rfl, rfl, by decide +kernel⟩ ?hw ?hc
  case hw => w_witness2
  case hc =>
    refine G69.walk_guardE (l := PySem.Challenge.rw_meantword_k63_worths_judged) (k := 6) rfl (by kernel_rfl) ⟨rfl, by decide, by decide⟩ (by decide +kernel) (by decide +kernel) ?F
    case F =>
      intro w mg fa h Y G hmg0
      obtain ⟨K, KX, c⟩ := Y
      have hmg : mg ("law" : PySem.Str) = some (.ref fa) := by
        have e : (HandSHeadRun.topDef (OpenLaw.row PySem.Challenge.rw_meantword_k63_worths_judged).prog 29).name = ("law" : PySem.Str) := by kernel_rfl
        rw [← e]
        exact hmg0
      exact ⟨K, KX, G69.all_K KX G hmg c⟩
