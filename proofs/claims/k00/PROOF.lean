import PyProof.Rows.All
import Wide.All
import OpenK.AllK
import Wide.FinOn
import KE.KStateDown
import HandS.Base
import HandS.Words
import HandS.Head0
import HandS.Head1
import HandS.Head2
import HandS.HeadEnd
import HandS.HeadHook1
import HandS.HeadHook2
import KE.KNestM
import KE.KExcSuper
import KE.KExcInit
import HandS.Call
import HandS.Exc
import HandS.ExcField
import PyProof.InstSpecial
import KE.KOpsOwn
import HandS.ForExc
import HandS.Comp
import HandS.Wide
import HandS.WideBits
import HandS.Slots
import HandS.SlotsOwn
import HandS.MakeKwOnly
import HandS.MakeKw
import HandS.Defaults
import HandS.More
import HandS.IsInst
import HandS.Flow
import HandS.Conv
import HandS.Codes
import PyProof.ReprRoads
import HandS.Lambda
import HandS.Zip
import HandS.NoneIn
import HandS.TupAny
import HandS.TupMul
import HandS.FStr
import HandS.RaiseMore
import HandS.Dict
import HandS.DictComp
import HandS.Iter
import HandS.Text
import KE.GoesEnum
import HandS.Strs
import HandS.SetFor
import HandS.Deep
import HandS.Style
import HandS.WordsDict
import HandS.IterVal
import HandS.ClsMeth
import HandS.OwnEq
import KE.KDictZip
import HandS.OwnIter
import HandS.IterNext
import PyProof.DictUpdate
import PyProof.DictTable
import PyProof.NeKinds
import HandS.Star
import HandS.WordsExc
import HandS.TryMany
import PyProof.ExcBaseAll.ValueError
import HandS.ExcInit
import HandS.ExcOwn
import PySem.Challenge.RW_pieceround_k00_words
set_option Elab.async false
set_option linter.all false
set_option maxRecDepth 100000
namespace PF
open PySem PySem.Spec PyProof.Rows
def topS (i : Nat) : Stmt := PySem.Challenge.pw_pieceround_k00_words.main.body.getD i (.Pass ⟨0, 0, 0, 0⟩)
end PF
set_option maxHeartbeats 1000000
namespace PHD
open PySem PySem.Spec PyProof.Rows L2
abbrev FwT : Type := Option (Str × Str × Arguments × FuncBody × Scope × Addr × List (Str × Addr) × Addr × Value)
def fw (K : PySem.W.Frag) (f : Addr) : FwT := match K.lookup f with
  | some ⟨_, _, .func fd, _⟩ => some (fd.name, fd.qualname, fd.params, fd.body, fd.scope, fd.globals, fd.closure, fd.builtins, fd.defaults)
  | _ => none
def fcode (K : PySem.W.Frag) (f : Addr) : Value := match K.lookup f with
  | some ⟨_, _, .func fd, _⟩ => fd.code
  | _ => .none
def fwV (n q : Str) (a : Arguments) (b : List Stmt) (s : Scope) : FwT := some (n, q, a, .stmts b, s, mainGlobals, [], builtinsNs, .none)
theorem fw_ok {K : PySem.W.Frag} {f : Addr} {n q : Str} {a : Arguments} {b : List Stmt} {s : Scope} (e : fw K f = fwV n q a b s) :
    ∃ oc od kV dc pm an ct sl, K.lookup f = some ⟨oc, od, .func (PySem.W.fnOf n q a b s .none kV dc pm an (fcode K f) ct), sl⟩ := by
  unfold fw at e
  unfold fcode
  cases h : K.lookup f with
  | none => rw [h] at e; cases e
  | some o =>
    obtain ⟨oc, od, dt, sl⟩ := o
    rw [h] at e
    cases dt with
    | func fd =>
      obtain ⟨n1, n2, n3, n4, n5, n6, n7, n8, n9, n10, n11, n12, n13, n14, n15⟩ := fd
      have e2 : (some (n1, n2, n3, n4, n5, n6, n7, n15, n8) : FwT) = some (n, q, a, .stmts b, s, mainGlobals, [], builtinsNs, .none) := e
      simp only [Option.some.injEq, Prod.mk.injEq] at e2
      obtain ⟨h1, h2, h3, h4, h5, h6, h7, h8, h9⟩ := e2
      subst h1 h2 h3 h4 h5 h6 h7 h8 h9
      exact ⟨oc, od, n9, n10, n11, n12, n14, sl, rfl⟩
    | _ => cases e
def intB (K : PySem.W.Frag) (x : Str) (i : Int) : Bool := match PySem.W.nsIn K mainGlobals x with
  | some (some (.int j _)) => decide (j = i)
  | _ => false
theorem int_ok {K : PySem.W.Frag} {x : Str} {i : Int} (h : intB K x i = true) : ∃ t, PySem.W.nsIn K mainGlobals x = some (some (.int i t)) := by
  unfold intB at h
  split at h
  · rename_i j t e
    exact ⟨t, by rw [e, of_decide_eq_true h]⟩
  · cases h
def strB (K : PySem.W.Frag) (x z : Str) : Bool := match PySem.W.nsIn K mainGlobals x with
  | some (some (.str j _)) => decide (j = z)
  | _ => false
theorem str_ok {K : PySem.W.Frag} {x z : Str} (h : strB K x z = true) : ∃ t, PySem.W.nsIn K mainGlobals x = some (some (.str z t)) := by
  unfold strB at h
  split at h
  · rename_i j t e
    exact ⟨t, by rw [e, of_decide_eq_true h]⟩
  · cases h
def lv (g : Addr → Option Obj) (as : List Addr) : List Addr := as.flatMap fun a => match g a with
  | some o => He.refsD o
  | none => []
def asL (g : Addr → Option Obj) : List Addr := [mainGlobals, cStatics] ++ lv g [mainGlobals] ++ lv g (lv g [mainGlobals]) ++ lv g (lv g (lv g [mainGlobals])) ++ lv g (lv g (lv g (lv g [mainGlobals]))) ++ lv g (lv g (lv g (lv g (lv g [mainGlobals]))))
theorem map3 {α β γ δ : Type} {o : Option α} {f : α → β} {g : α → γ} {h : α → δ} {a : β} {b : γ} {c : δ} (e1 : o.map f = some a) (e2 : o.map g = some b) (e3 : o.map h = some c) : o.map (fun s => (f s, g s, h s)) = some (a, b, c) := by
  cases o with
  | none => cases e1
  | some x =>
    simp only [Option.map_some, Option.some.injEq] at e1 e2 e3 ⊢
    rw [e1, e2, e3]
theorem map2 {α β γ : Type} {o : Option α} {f : α → β} {g : α → γ} {a : β} {b : γ} (e1 : o.map f = some a) (e2 : o.map g = some b) : o.map (fun s => (f s, g s)) = some (a, b) := by
  cases o with
  | none => cases e1
  | some x =>
    simp only [Option.map_some, Option.some.injEq] at e1 e2 ⊢
    rw [e1, e2]
theorem map_and {α : Type} {o : Option α} {f g : α → Bool} (e1 : o.map f = some true) (e2 : o.map g = some true) : o.map (fun s => f s && g s) = some true := by
  cases o with
  | none => cases e1
  | some x =>
    simp only [Option.map_some, Option.some.injEq] at e1 e2 ⊢
    rw [e1, e2]; rfl
def tabE : Option Obj → Bool
  | some ⟨.none, none, .fields vs, sl⟩ => vs.isEmpty && sl.isEmpty
  | _ => false
theorem tabE_ok {o : Option Obj} (h : tabE o = true) : o = some { cls := .none, data := .fields #[] } := by
  unfold tabE at h
  split at h
  · rename_i vs sl
    rw [Bool.and_eq_true, Array.isEmpty_iff, Array.isEmpty_iff] at h
    rw [h.1, h.2]
  · cases h
def asT (g : Addr → Option Obj) : List Addr := (asL g).filter fun a => !tabE (g a)
def tabsB (cs : List (Addr × Addr)) (g : Addr → Option Obj) : Bool := cs.all fun p => tabE (g p.2)
def tabsK (cs : List (Addr × Addr)) (K : PySem.W.Frag) : Bool := cs.all fun p => (K.lookup p.2).isNone && PySem.W.codeHdIn K p.1 p.2
def saysT (cs : List (Addr × Addr)) (bx : PySem.W.Frag → Bool) (fx : PySem.W.Frag → List FwT) (vx : List FwT) (h : Heap) : Prop :=
  ∃ K : PySem.W.Frag, K.In h ∧ (∀ p ∈ cs, h.get? p.2 = some { cls := .none, data := .fields #[] }) ∧ (∀ p ∈ cs, K.lookup p.2 = none) ∧ (∀ p ∈ cs, PySem.W.codeHdIn K p.1 p.2 = true) ∧ bx K = true ∧ fx K = vx
def hookT (cs : List (Addr × Addr)) (bx : PySem.W.Frag → Bool) (fx : PySem.W.Frag → List FwT) (vx : List FwT) : PySem.W.Hook where
  α := Bool × List FwT
  obs := fun s => ((tabsB cs s.heap.get? && tabsK cs (He.frG s.heap.get? (asT s.heap.get?))) && bx (He.frG s.heap.get? (asT s.heap.get?)), fx (He.frG s.heap.get? (asT s.heap.get?)))
  val := fun _ => (true, vx)
  says := fun _ h => saysT cs bx fx vx h
  of := fun _ s e => by
    have e1 := congrArg Prod.fst e
    have e2 := congrArg Prod.snd e
    dsimp only at e1 e2
    rw [Bool.and_eq_true, Bool.and_eq_true] at e1
    obtain ⟨⟨a, b⟩, c⟩ := e1
    refine ⟨_, He.frG_in, fun p hp => tabE_ok (List.all_eq_true.mp a p hp), fun p hp => ?_, fun p hp => ?_, c, e2⟩
    · have := List.all_eq_true.mp b p hp
      rw [Bool.and_eq_true] at this
      exact Option.isNone_iff_eq_none.mp this.1
    · have := List.all_eq_true.mp b p hp
      rw [Bool.and_eq_true] at this
      exact this.2
  keeps := fun _ _ _ ⟨K, hK, c, d⟩ k => ⟨K, PySem.W.Frag.In.keeps hK k, fun p hp => k _ _ (c p hp), d⟩
noncomputable def obT (cs : List (Addr × Addr)) (bx : PySem.W.Frag → Bool) (fx : PySem.W.Frag → List FwT) (s : PySem.W.SharedT) : Bool × List FwT :=
  ((tabsB cs (HandSHeadRun.getT s) && tabsK cs (He.frG (HandSHeadRun.getT s) (asT (HandSHeadRun.getT s)))) && bx (He.frG (HandSHeadRun.getT s) (asT (HandSHeadRun.getT s))), fx (He.frG (HandSHeadRun.getT s) (asT (HandSHeadRun.getT s))))
theorem obT_eq {cs : List (Addr × Addr)} {bx : PySem.W.Frag → Bool} {fx : PySem.W.Frag → List FwT} {vx : List FwT} (s : PySem.W.SharedT) : obT cs bx fx s = (hookT cs bx fx vx).obs s.abs := by
  have e : HandSHeadRun.getT s = s.abs.heap.get? := funext (HandSHeadRun.getT_eq s)
  unfold obT
  rw [e] <;> rfl
end PHD
namespace PEO
open PySem PySem.Spec PyProof.Rows L2
abbrev FwT : Type := Option (Str × Str × Arguments × FuncBody × Scope × Addr × List (Str × Addr) × Addr × Value)
def errB (K : PySem.W.Frag) (C : Addr) (bm : List Value) (newId : String) : Bool := match K.lookup C with
  | some ⟨.type "type", _, .cls cd, sl⟩ => (match sl.toList with
    | [_, _, _, _, some (.builtin n), _] => n == newId && !cd.hasDel && cd.hasDict && decide (cd.mro = .ref C :: bm)
    | _ => false)
  | _ => false
theorem errB_ok {K : PySem.W.Frag} {C : Addr} {bm : List Value} {newId : String} (e : errB K C bm newId = true) :
    ∃ nm q N bs sn sub ab col dd k0 k1 k2 k3 k5, K.lookup C = some (excClassObj nm q C N bs bm true sn sub ab col dd k0 k1 k2 k3 k5 newId) := by
  unfold errB at e
  split at e
  · rename_i dd cd sl ho
    split at e
    · rename_i k0 k1 k2 k3 n k5 hs
      simp only [Bool.and_eq_true, beq_iff_eq, Bool.not_eq_true', decide_eq_true_eq] at e
      obtain ⟨⟨⟨hn, hd⟩, hh⟩, hm⟩ := e
      subst hn
      obtain ⟨nm, bs, mro, ns, qn, hdct, sn, sb, ab, col, del⟩ := cd
      dsimp only at hd hh hm
      subst hd hh hm
      have es : sl = #[k0, k1, k2, k3, some (.builtin n), k5] := by
        apply Array.ext'
        rw [hs]
      subst es
      exact ⟨nm, qn, ns, bs, sn, sb, ab, col, dd, k0, k1, k2, k3, k5, ho⟩
    · cases e
  · cases e
def cellA (K : PySem.W.Frag) (f : Addr) : Addr := match K.lookup f with
  | some ⟨_, _, .func fd, _⟩ => (match fd.closure with | [(_, c)] => c | _ => 0)
  | _ => 0
def codeA (K : PySem.W.Frag) (f : Addr) : Addr := match K.lookup f with
  | some ⟨_, _, .func fd, _⟩ => (match fd.code with | .ref c => c | _ => 0)
  | _ => 0
def fwC (K : PySem.W.Frag) (f : Addr) : FwT := match K.lookup f with
  | some ⟨_, _, .func fd, _⟩ => some (fd.name, fd.qualname, fd.params, fd.body, fd.scope, fd.globals, fd.closure.map fun p => (p.1, 0), fd.builtins, fd.defaults)
  | _ => none
def fwCV (n q : Str) (a : Arguments) (b : List Stmt) (s : Scope) : FwT := some (n, q, a, .stmts b, s, mainGlobals, [("__class__", 0)], builtinsNs, .none)
def codeB (K : PySem.W.Frag) (f : Addr) : Bool := match K.lookup f with
  | some ⟨_, _, .func fd, _⟩ => (match fd.code with | .ref _ => true | _ => false)
  | _ => false
theorem fwC_ok {K : PySem.W.Frag} {f : Addr} {n q : Str} {a : Arguments} {b : List Stmt} {s : Scope} (e : fwC K f = fwCV n q a b s) (c : codeB K f = true) :
    ∃ oc od sl kV dc pm an ct, K.lookup f = some ⟨oc, od, .func (PySem.W.ksFn n q a b s .none kV dc pm an (.ref (codeA K f)) ct (cellA K f)), sl⟩ := by
  unfold fwC at e
  unfold codeB at c
  unfold codeA cellA
  cases h : K.lookup f with
  | none => rw [h] at e; cases e
  | some o =>
    obtain ⟨oc, od, dt, sl⟩ := o
    rw [h] at e c
    cases dt with
    | func fd =>
      obtain ⟨n1, n2, n3, n4, n5, n6, n7, n8, n9, n10, n11, n12, n13, n14, n15⟩ := fd
      have e2 : (some (n1, n2, n3, n4, n5, n6, n7.map (fun p => (p.1, 0)), n15, n8) : FwT) = (some (n, q, a, FuncBody.stmts b, s, mainGlobals, [(("__class__" : Str), 0)], builtinsNs, Value.none) : FwT) := e
      simp only [Option.some.injEq, Prod.mk.injEq] at e2
      obtain ⟨h1, h2, h3, h4, h5, h6, h7, h8, h9⟩ := e2
      subst h1 h2 h3 h4 h5 h6 h8 h9
      dsimp only at c ⊢
      cases n7 with
      | nil =>
        have := congrArg List.length h7
        simp at this
      | cons p l =>
        cases l with
        | cons p2 l =>
          have := congrArg List.length h7
          simp at this
        | nil =>
          obtain ⟨pn, pc⟩ := p
          simp only [List.map_cons, List.map_nil, List.cons.injEq, Prod.mk.injEq, and_true] at h7
          obtain rfl := h7
          split at c
          · rename_i cx hx
            exact ⟨oc, od, sl, n9, n10, n11, n12, n14, rfl⟩
          · cases c
    | _ => cases e
def cellB (K : PySem.W.Frag) (cc C : Addr) : Bool := match K.lookup cc with
  | some ⟨_, _, .cell (some (.ref D)), _⟩ => D == C
  | _ => false
theorem cellB_ok {K : PySem.W.Frag} {cc C : Addr} (e : cellB K cc C = true) : ∃ cl cld csl, K.lookup cc = some ⟨cl, cld, .cell (some (.ref C)), csl⟩ := by
  unfold cellB at e
  split at e
  · rename_i a b D s h
    rw [beq_iff_eq] at e
    subst e
    exact ⟨_, _, _, h⟩
  · cases e
def fileB (K : PySem.W.Frag) (cda : Addr) (file : Str) : Bool := match K.lookup cda with
  | some ⟨_, _, .fields vs, _⟩ => (match (vs[2]? : Option Value) with | some (Value.str n _) => n == file | _ => false)
  | _ => false
theorem fileB_ok {K : PySem.W.Frag} {cda : Addr} {file : Str} (e : fileB K cda file = true) : ∃ ccl cdd vs ccs tf, K.lookup cda = some ⟨ccl, cdd, .fields vs, ccs⟩ ∧ vs[2]? = some (.str file tf) := by
  unfold fileB at e
  split at e
  · rename_i a b vs s h
    split at e
    · rename_i n tf h2
      rw [beq_iff_eq] at e
      subst e
      exact ⟨_, _, _, _, _, h, h2⟩
    · cases e
  · cases e
end PEO
set_option maxHeartbeats 0
namespace PH
open PF PySem PySem.Spec PyProof.Rows L2
def a_ft0 (K : PySem.W.Frag) : Addr := He.ga K "is_whole"
def a_cdt0 (K : PySem.W.Frag) : Value := PHD.fcode K (a_ft0 K)
def a_ft1 (K : PySem.W.Frag) : Addr := He.ga K "_law_dice"
def a_cdt1 (K : PySem.W.Frag) : Value := PHD.fcode K (a_ft1 K)
def a_ft2 (K : PySem.W.Frag) : Addr := He.ga K "_law_roll"
def a_cdt2 (K : PySem.W.Frag) : Value := PHD.fcode K (a_ft2 K)
def a_ft3 (K : PySem.W.Frag) : Addr := He.ga K "_law_pick"
def a_cdt3 (K : PySem.W.Frag) : Value := PHD.fcode K (a_ft3 K)
def a_ft4 (K : PySem.W.Frag) : Addr := He.ga K "is_integer"
def a_cdt4 (K : PySem.W.Frag) : Value := PHD.fcode K (a_ft4 K)
def a_ft5 (K : PySem.W.Frag) : Addr := He.ga K "is_count"
def a_cdt5 (K : PySem.W.Frag) : Value := PHD.fcode K (a_ft5 K)
def a_ft6 (K : PySem.W.Frag) : Addr := He.ga K "is_name"
def a_cdt6 (K : PySem.W.Frag) : Value := PHD.fcode K (a_ft6 K)
def a_ft7 (K : PySem.W.Frag) : Addr := He.ga K "are_names"
def a_cdt7 (K : PySem.W.Frag) : Value := PHD.fcode K (a_ft7 K)
def a_ft8 (K : PySem.W.Frag) : Addr := He.ga K "require_count"
def a_cdt8 (K : PySem.W.Frag) : Value := PHD.fcode K (a_ft8 K)
def a_A_InvalidCount (K : PySem.W.Frag) : Addr := He.ga K "InvalidCount"
def a_fI_InvalidCount (K : PySem.W.Frag) : Addr := He.ma K (a_A_InvalidCount K) "__init__"
def a_ft9 (K : PySem.W.Frag) : Addr := He.ga K "nth_name"
def a_cdt9 (K : PySem.W.Frag) : Value := PHD.fcode K (a_ft9 K)
def a_ft10 (K : PySem.W.Frag) : Addr := He.ga K "new_names"
def a_cdt10 (K : PySem.W.Frag) : Value := PHD.fcode K (a_ft10 K)
def a_A_InvalidOperation (K : PySem.W.Frag) : Addr := He.ga K "InvalidOperation"
def a_ft11 (K : PySem.W.Frag) : Addr := He.ga K "_law_mixed"
def a_cdt11 (K : PySem.W.Frag) : Value := PHD.fcode K (a_ft11 K)
def a_ft12 (K : PySem.W.Frag) : Addr := He.ga K "_law_some"
def a_cdt12 (K : PySem.W.Frag) : Value := PHD.fcode K (a_ft12 K)
def a_ft13 (K : PySem.W.Frag) : Addr := He.ga K "_law_nth"
def a_cdt13 (K : PySem.W.Frag) : Value := PHD.fcode K (a_ft13 K)
def a_ft14 (K : PySem.W.Frag) : Addr := He.ga K "_law_error"
def a_cdt14 (K : PySem.W.Frag) : Value := PHD.fcode K (a_ft14 K)
def a_ft15 (K : PySem.W.Frag) : Addr := He.ga K "_law_lettered"
def a_cdt15 (K : PySem.W.Frag) : Value := PHD.fcode K (a_ft15 K)
def a_ft16 (K : PySem.W.Frag) : Addr := He.ga K "_law_any_word"
def a_cdt16 (K : PySem.W.Frag) : Value := PHD.fcode K (a_ft16 K)
def a_ft17 (K : PySem.W.Frag) : Addr := He.ga K "_law_any_integer"
def a_cdt17 (K : PySem.W.Frag) : Value := PHD.fcode K (a_ft17 K)
def a_ft18 (K : PySem.W.Frag) : Addr := He.ga K "_law_judged"
def a_cdt18 (K : PySem.W.Frag) : Value := PHD.fcode K (a_ft18 K)
def a_ft19 (K : PySem.W.Frag) : Addr := He.ga K "_law_listed"
def a_cdt19 (K : PySem.W.Frag) : Value := PHD.fcode K (a_ft19 K)
def a_ft20 (K : PySem.W.Frag) : Addr := He.ga K "_law_refused"
def a_cdt20 (K : PySem.W.Frag) : Value := PHD.fcode K (a_ft20 K)
def a_ft21 (K : PySem.W.Frag) : Addr := He.ga K "law"
def a_cdt21 (K : PySem.W.Frag) : Value := PHD.fcode K (a_ft21 K)
def bx0 (K : PySem.W.Frag) : Bool := (decide (PySem.W.nsIn K mainGlobals "abs" = some none)) && ((decide (PySem.W.nsIn K mainGlobals "all" = some none)) && ((decide (PySem.W.nsIn K mainGlobals "bool" = some none)) && ((decide (PySem.W.nsIn K mainGlobals "divmod" = some none)) && ((decide (PySem.W.nsIn K mainGlobals "int" = some none)) && ((decide (PySem.W.nsIn K mainGlobals "isinstance" = some none)) && ((decide (PySem.W.nsIn K mainGlobals "len" = some none)) && ((decide (PySem.W.nsIn K mainGlobals "list" = some none)) && ((decide (PySem.W.nsIn K mainGlobals "max" = some none)) && ((decide (PySem.W.nsIn K mainGlobals "min" = some none)) && ((decide (PySem.W.nsIn K mainGlobals "range" = some none)) && ((decide (PySem.W.nsIn K mainGlobals "repr" = some none)) && ((decide (PySem.W.nsIn K mainGlobals "str" = some none)) && ((decide (PySem.W.nsIn K mainGlobals "tuple" = some none)) && ((decide (PySem.W.specialIn K (.builtin "object.__class__") "__get__" = some (some (.builtin "getset_descriptor.__get__")))) && ((decide (PySem.W.takesIn K (.builtin "object.__class__") = some true)) && ((decide (PySem.W.nsIn K mainGlobals "is_whole" = some (some (.ref (a_ft0 K))))) && ((decide (PySem.W.codeIn K (a_cdt0 K) "is_whole" = true)) && ((decide (PySem.W.keepIn K (.ref (a_ft0 K)) = true)) && ((decide (PySem.W.nsIn K mainGlobals "_law_dice" = some (some (.ref (a_ft1 K))))) && true)))))))))))))))))))
def bx1 (K : PySem.W.Frag) : Bool := (decide (PySem.W.codeIn K (a_cdt1 K) "_law_dice" = true)) && ((decide (PySem.W.keepIn K (.ref (a_ft1 K)) = true)) && ((decide (PySem.W.nsIn K mainGlobals "_law_roll" = some (some (.ref (a_ft2 K))))) && ((decide (PySem.W.codeIn K (a_cdt2 K) "_law_roll" = true)) && ((decide (PySem.W.keepIn K (.ref (a_ft2 K)) = true)) && ((decide (PySem.W.nsIn K mainGlobals "_law_pick" = some (some (.ref (a_ft3 K))))) && ((decide (PySem.W.codeIn K (a_cdt3 K) "_law_pick" = true)) && ((decide (PySem.W.keepIn K (.ref (a_ft3 K)) = true)) && ((decide (PySem.W.nsIn K mainGlobals "is_integer" = some (some (.ref (a_ft4 K))))) && ((decide (PySem.W.codeIn K (a_cdt4 K) "is_integer" = true)) && ((decide (PySem.W.keepIn K (.ref (a_ft4 K)) = true)) && ((decide (PySem.W.nsIn K mainGlobals "is_count" = some (some (.ref (a_ft5 K))))) && ((decide (PySem.W.codeIn K (a_cdt5 K) "is_count" = true)) && ((decide (PySem.W.keepIn K (.ref (a_ft5 K)) = true)) && ((decide (PySem.W.nsIn K mainGlobals "is_name" = some (some (.ref (a_ft6 K))))) && ((decide (PySem.W.codeIn K (a_cdt6 K) "is_name" = true)) && ((decide (PySem.W.keepIn K (.ref (a_ft6 K)) = true)) && ((decide (PySem.W.nsIn K mainGlobals "are_names" = some (some (.ref (a_ft7 K))))) && ((decide (PySem.W.codeIn K (a_cdt7 K) "are_names" = true)) && ((decide (PySem.W.keepIn K (.ref (a_ft7 K)) = true)) && true)))))))))))))))))))
def bx2 (K : PySem.W.Frag) : Bool := (decide (PySem.W.nsIn K mainGlobals "require_count" = some (some (.ref (a_ft8 K))))) && ((decide (PySem.W.codeIn K (a_cdt8 K) "require_count" = true)) && ((decide (PySem.W.keepIn K (.ref (a_ft8 K)) = true)) && ((decide (PySem.W.nsIn K cStatics "thirdparty.any" = some none)) && ((decide (PySem.W.nsIn K mainGlobals "super" = some none)) && ((decide (PySem.W.nsIn K mainGlobals "InvalidCount" = some (some (.ref (a_A_InvalidCount K))))) && ((decide (PySem.W.findIn K (.ref (a_A_InvalidCount K)) "__init__" = some (some (.ref (a_fI_InvalidCount K))))) && ((decide (PEO.errB K (a_A_InvalidCount K) [.type "IndexError", .type "LookupError", .type "Exception", .type "BaseException", .type "object"] "IndexError.__new__" = true)) && ((decide (PEO.codeB K (a_fI_InvalidCount K) = true)) && ((decide (PySem.W.codeIn K (.ref (PEO.codeA K (a_fI_InvalidCount K))) "InvalidCount.__init__" = true)) && ((decide (PEO.cellB K (PEO.cellA K (a_fI_InvalidCount K)) (a_A_InvalidCount K) = true)) && ((decide (PEO.fileB K (PEO.codeA K (a_fI_InvalidCount K)) "/claim/cut.py" = true)) && ((decide (PySem.W.findIn K (.ref (a_A_InvalidCount K)) "__setattr__" = some (some (.builtin "object.__setattr__")))) && ((decide (PySem.W.findIn K (.ref (a_A_InvalidCount K)) "value" = some none)) && ((decide (PySem.W.excOver K (a_A_InvalidCount K) [.type "IndexError", .type "LookupError", .type "Exception", .type "BaseException", .type "object"] = true)) && ((decide (PySem.W.subIn K (.ref (a_A_InvalidCount K)) (.type "BaseException") = some true)) && ((decide (PySem.W.typeIn K (.ref (a_A_InvalidCount K)) = some (.type "type"))) && ((decide (PySem.W.keepIn K (.ref (a_A_InvalidCount K)) = true)) && ((decide (PySem.W.typeIn K (.ref (a_fI_InvalidCount K)) = some (.type "function"))) && ((decide (xfB K (a_A_InvalidCount K) = true)) && true)))))))))))))))))))
def bx3 (K : PySem.W.Frag) : Bool := (decide (PySem.W.nsIn K mainGlobals "nth_name" = some (some (.ref (a_ft9 K))))) && ((decide (PySem.W.codeIn K (a_cdt9 K) "nth_name" = true)) && ((decide (PySem.W.keepIn K (.ref (a_ft9 K)) = true)) && ((decide (PySem.W.nsIn K mainGlobals "new_names" = some (some (.ref (a_ft10 K))))) && ((decide (PySem.W.codeIn K (a_cdt10 K) "new_names" = true)) && ((decide (PySem.W.keepIn K (.ref (a_ft10 K)) = true)) && ((decide (PySem.W.nsIn K mainGlobals "InvalidOperation" = some (some (.ref (a_A_InvalidOperation K))))) && ((decide (PySem.W.excIn K (a_A_InvalidOperation K) [.type "ValueError", .type "Exception", .type "BaseException", .type "object"] "ValueError.__new__" = true)) && ((decide (PySem.W.keepIn K (.ref (a_A_InvalidOperation K)) = true)) && ((decide (PySem.W.subIn K (.ref (a_A_InvalidOperation K)) (.type "BaseException") = some true)) && ((decide (PySem.W.typeIn K (.ref (a_A_InvalidOperation K)) = some (.type "type"))) && ((decide (PySem.W.nsIn K mainGlobals "_law_mixed" = some (some (.ref (a_ft11 K))))) && ((decide (PySem.W.codeIn K (a_cdt11 K) "_law_mixed" = true)) && ((decide (PySem.W.keepIn K (.ref (a_ft11 K)) = true)) && ((decide (PySem.W.nsIn K mainGlobals "_law_some" = some (some (.ref (a_ft12 K))))) && ((decide (PySem.W.codeIn K (a_cdt12 K) "_law_some" = true)) && ((decide (PySem.W.keepIn K (.ref (a_ft12 K)) = true)) && ((decide (PySem.W.nsIn K mainGlobals "_law_nth" = some (some (.ref (a_ft13 K))))) && ((decide (PySem.W.codeIn K (a_cdt13 K) "_law_nth" = true)) && ((decide (PySem.W.keepIn K (.ref (a_ft13 K)) = true)) && true)))))))))))))))))))
def bx4 (K : PySem.W.Frag) : Bool := (decide (PySem.W.nsIn K mainGlobals "_law_error" = some (some (.ref (a_ft14 K))))) && ((decide (PySem.W.codeIn K (a_cdt14 K) "_law_error" = true)) && ((decide (PySem.W.keepIn K (.ref (a_ft14 K)) = true)) && ((decide (PySem.W.nsIn K mainGlobals "_law_lettered" = some (some (.ref (a_ft15 K))))) && ((decide (PySem.W.codeIn K (a_cdt15 K) "_law_lettered" = true)) && ((decide (PySem.W.keepIn K (.ref (a_ft15 K)) = true)) && ((decide (PySem.W.nsIn K mainGlobals "_law_any_word" = some (some (.ref (a_ft16 K))))) && ((decide (PySem.W.codeIn K (a_cdt16 K) "_law_any_word" = true)) && ((decide (PySem.W.keepIn K (.ref (a_ft16 K)) = true)) && ((decide (PySem.W.nsIn K mainGlobals "_law_any_integer" = some (some (.ref (a_ft17 K))))) && ((decide (PySem.W.codeIn K (a_cdt17 K) "_law_any_integer" = true)) && ((decide (PySem.W.keepIn K (.ref (a_ft17 K)) = true)) && ((decide (PySem.W.nsIn K mainGlobals "_law_judged" = some (some (.ref (a_ft18 K))))) && ((decide (PySem.W.codeIn K (a_cdt18 K) "_law_judged" = true)) && ((decide (PySem.W.keepIn K (.ref (a_ft18 K)) = true)) && ((decide (PySem.W.nsIn K mainGlobals "_law_listed" = some (some (.ref (a_ft19 K))))) && ((decide (PySem.W.codeIn K (a_cdt19 K) "_law_listed" = true)) && ((decide (PySem.W.keepIn K (.ref (a_ft19 K)) = true)) && ((decide ((a_cdt19 K) = .ref 186)) && ((decide (PySem.W.exmOne K (.ref (a_A_InvalidCount K)) (.ref (a_A_InvalidCount K)) = some true)) && true)))))))))))))))))))
def bx5 (K : PySem.W.Frag) : Bool := (decide (PySem.W.exmOne K (.ref (a_A_InvalidOperation K)) (.ref (a_A_InvalidCount K)) = some false)) && ((decide (PySem.W.exmOne K (.ref (a_A_InvalidOperation K)) (.ref (a_A_InvalidOperation K)) = some true)) && ((decide (PySem.W.nsIn K mainGlobals "_law_refused" = some (some (.ref (a_ft20 K))))) && ((decide (PySem.W.codeIn K (a_cdt20 K) "_law_refused" = true)) && ((decide (PySem.W.keepIn K (.ref (a_ft20 K)) = true)) && ((decide ((a_cdt20 K) = .ref 193)) && ((decide (PySem.W.nsIn K mainGlobals "law" = some (some (.ref (a_ft21 K))))) && ((decide (PySem.W.codeIn K (a_cdt21 K) "law" = true)) && ((decide (PySem.W.keepIn K (.ref (a_ft21 K)) = true)) && ((PHD.intB K "GREAT" 1000000000000000000000000000000000000000000000000000000000000) && ((PHD.strB K "LETTERS" "abcdefghijklmnopqrstuvwxyz") && ((PHD.intB K "MANY_NAMES" 702) && ((PHD.intB K "MAX_FIGURES" 60) && ((PHD.intB K "MAX_LETTERS" 8) && ((PHD.intB K "MOST_NEW" 100) && ((PHD.intB K "MOST_USED" 200) && true)))))))))))))))
def bp0 (K : PySem.W.Frag) : Bool := bx0 K && (bx4 K && true)
def bp1 (K : PySem.W.Frag) : Bool := bx1 K && (bx5 K && true)
def bp2 (K : PySem.W.Frag) : Bool := bx2 K && true
def bp3 (K : PySem.W.Frag) : Bool := bx3 K && true
def bx (K : PySem.W.Frag) : Bool := bp0 K && (bp1 K && (bp2 K && (bp3 K)))
def fx0 (K : PySem.W.Frag) : List PHD.FwT := [PHD.fw K (a_ft0 K), PHD.fw K (a_ft1 K), PHD.fw K (a_ft2 K), PHD.fw K (a_ft3 K), PHD.fw K (a_ft4 K), PHD.fw K (a_ft5 K), PHD.fw K (a_ft6 K), PHD.fw K (a_ft7 K), PHD.fw K (a_ft8 K), PEO.fwC K (a_fI_InvalidCount K), PHD.fw K (a_ft9 K), PHD.fw K (a_ft10 K), PHD.fw K (a_ft11 K), PHD.fw K (a_ft12 K), PHD.fw K (a_ft13 K), PHD.fw K (a_ft14 K), PHD.fw K (a_ft15 K), PHD.fw K (a_ft16 K), PHD.fw K (a_ft17 K), PHD.fw K (a_ft18 K)]
def vx0 : List PHD.FwT := [PHD.fwV "is_whole" "is_whole" (defArgs (topS 12)) (defBody (topS 12)) (defScope (topS 12)), PHD.fwV "_law_dice" "_law_dice" (defArgs (topS 21)) (defBody (topS 21)) (defScope (topS 21)), PHD.fwV "_law_roll" "_law_roll" (defArgs (topS 22)) (defBody (topS 22)) (defScope (topS 22)), PHD.fwV "_law_pick" "_law_pick" (defArgs (topS 23)) (defBody (topS 23)) (defScope (topS 23)), PHD.fwV "is_integer" "is_integer" (defArgs (topS 13)) (defBody (topS 13)) (defScope (topS 13)), PHD.fwV "is_count" "is_count" (defArgs (topS 14)) (defBody (topS 14)) (defScope (topS 14)), PHD.fwV "is_name" "is_name" (defArgs (topS 15)) (defBody (topS 15)) (defScope (topS 15)), PHD.fwV "are_names" "are_names" (defArgs (topS 16)) (defBody (topS 16)) (defScope (topS 16)), PHD.fwV "require_count" "require_count" (defArgs (topS 17)) (defBody (topS 17)) (defScope (topS 17)), PEO.fwCV "__init__" "InvalidCount.__init__" (defArgs (inClass (topS 3) 0)) (defBody (inClass (topS 3) 0)) (defScope (inClass (topS 3) 0)), PHD.fwV "nth_name" "nth_name" (defArgs (topS 18)) (defBody (topS 18)) (defScope (topS 18)), PHD.fwV "new_names" "new_names" (defArgs (topS 19)) (defBody (topS 19)) (defScope (topS 19)), PHD.fwV "_law_mixed" "_law_mixed" (defArgs (topS 24)) (defBody (topS 24)) (defScope (topS 24)), PHD.fwV "_law_some" "_law_some" (defArgs (topS 25)) (defBody (topS 25)) (defScope (topS 25)), PHD.fwV "_law_nth" "_law_nth" (defArgs (topS 26)) (defBody (topS 26)) (defScope (topS 26)), PHD.fwV "_law_error" "_law_error" (defArgs (topS 27)) (defBody (topS 27)) (defScope (topS 27)), PHD.fwV "_law_lettered" "_law_lettered" (defArgs (topS 28)) (defBody (topS 28)) (defScope (topS 28)), PHD.fwV "_law_any_word" "_law_any_word" (defArgs (topS 29)) (defBody (topS 29)) (defScope (topS 29)), PHD.fwV "_law_any_integer" "_law_any_integer" (defArgs (topS 30)) (defBody (topS 30)) (defScope (topS 30)), PHD.fwV "_law_judged" "_law_judged" (defArgs (topS 31)) (defBody (topS 31)) (defScope (topS 31))]
def fx1 (K : PySem.W.Frag) : List PHD.FwT := [PHD.fw K (a_ft19 K), PHD.fw K (a_ft20 K), PHD.fw K (a_ft21 K)]
def vx1 : List PHD.FwT := [PHD.fwV "_law_listed" "_law_listed" (defArgs (topS 32)) (defBody (topS 32)) (defScope (topS 32)), PHD.fwV "_law_refused" "_law_refused" (defArgs (topS 33)) (defBody (topS 33)) (defScope (topS 33)), PHD.fwV "law" "law" (defArgs (topS 34)) (defBody (topS 34)) (defScope (topS 34))]
def fx (K : PySem.W.Frag) : List PHD.FwT := fx0 K ++ (fx1 K ++ [])
def vx : List PHD.FwT := vx0 ++ (vx1 ++ [])
abbrev R : PySem.W.OpenRow := PySem.W.OpenLaw.row PySem.Challenge.rw_pieceround_k00_words
def nm0 : List PySem.Str := ["PieceError", "InvalidOperation", "InvalidCount", "MAX_LETTERS", "MAX_FIGURES", "GREAT", "LETTERS", "MANY_NAMES", "MOST_USED", "MOST_NEW", "is_whole", "is_integer", "is_count", "is_name", "are_names", "require_count", "nth_name", "new_names", "_law_dice", "_law_roll", "_law_pick", "_law_mixed", "_law_some", "_law_nth", "_law_error", "_law_lettered", "_law_any_word", "_law_any_integer", "_law_judged", "_law_listed"]
def nm1 : List PySem.Str := ["_law_refused"]
abbrev nms : List PySem.Str := nm0 ++ nm1
abbrev vw : Program := PySem.W.view R.prog [34]
def tbs : List (Addr × Addr) := [(186, 184), (193, 189)]
abbrev hk : PySem.W.Hook := PHD.hookT tbs bx fx vx
noncomputable abbrev EF (w : World) (os : OsState) : Option PySem.W.SharedT := HandSHeadRun.endF (HandSHeadRun.stepQ (HandSHeadRun.denQ HandSHeadRun.tabQ) R.prog w) 20000 R.prog w os
theorem r1 (w : World) (os : OsState) : (EF w os).map (fun s => HandSHeadRun.looksF R.prog (PySem.W.boot_heap w.params) s.abs) = some true := by
  kernel_rfl
theorem r2 (w : World) (os : OsState) : (EF w os).map (fun s => HandSHeadRun.seenQ vw nms (importedModules R.prog.main.body) (fun s => PySem.W.xlAt vw [] s && PySem.W.recOk R.toRowW.records s) s.abs) = some (PySem.W.openGood vw nms) := by
  kernel_rfl
theorem r3_0 (w : World) (os : OsState) : (EF w os).map (fun s => bp0 (He.frG (HandSHeadRun.getT s) (PHD.asT (HandSHeadRun.getT s)))) = some true := by
  kernel_rfl
theorem r3_1 (w : World) (os : OsState) : (EF w os).map (fun s => bp1 (He.frG (HandSHeadRun.getT s) (PHD.asT (HandSHeadRun.getT s)))) = some true := by
  kernel_rfl
theorem r3_2 (w : World) (os : OsState) : (EF w os).map (fun s => bp2 (He.frG (HandSHeadRun.getT s) (PHD.asT (HandSHeadRun.getT s)))) = some true := by
  kernel_rfl
theorem r3_3 (w : World) (os : OsState) : (EF w os).map (fun s => bp3 (He.frG (HandSHeadRun.getT s) (PHD.asT (HandSHeadRun.getT s)))) = some true := by
  kernel_rfl
theorem r3 (w : World) (os : OsState) : (EF w os).map (fun s => bx (He.frG (HandSHeadRun.getT s) (PHD.asT (HandSHeadRun.getT s)))) = some true := PHD.map_and (r3_0 w os) (PHD.map_and (r3_1 w os) (PHD.map_and (r3_2 w os) (r3_3 w os)))
theorem r4 (w : World) (os : OsState) : (EF w os).map (fun s => fx (He.frG (HandSHeadRun.getT s) (PHD.asT (HandSHeadRun.getT s)))) = some vx := by
  kernel_rfl
theorem r3t (w : World) (os : OsState) : (EF w os).map (fun s => PHD.tabsB tbs (HandSHeadRun.getT s) && PHD.tabsK tbs (He.frG (HandSHeadRun.getT s) (PHD.asT (HandSHeadRun.getT s)))) = some true := by
  kernel_rfl
theorem r34 (w : World) (os : OsState) : (EF w os).map (fun s => PHD.obT tbs bx fx s) = some (true, vx) := PHD.map2 (PHD.map_and (r3t w os) (r3 w os)) (r4 w os)
end PH
set_option maxHeartbeats 4000000
namespace PF
open PySem PySem.Spec PyProof.Rows L2 SlX
section
variable {X : Cx} {CX : CXT} {C g : Addr} {n : Nat} {sp : Sp} {E : XK}
def CDvz (_ j : Int) : Prop := j ≠ 0 ∧ j.natAbs.log2 < 9000
theorem op_fdivZ : OpR X (binaryOp .FloorDiv) (rI CDvz fun i j => .int (i.fdiv j)) :=
  opI fun _ _ _ _ _ _ _ c k => floordiv_int c.1 k (.inl (PyProof.noPylong_of_log2 c.2))
end
def FnG (P : Program) (w : World) (K : PySem.W.Frag) (mg : Str → Option Value) (base : Heap) (k : Nat) (f : Addr) (m : Nat) (sp : Sp) : Prop :=
  ∀ (Ar : Around) (out : List Env) (st : Shared) (G : Hp) (us : List Value) (vs : List V) (R : VK), Ar.guards = some [] → Room k Ar → Env0 P w K mg base Ar out st G → vs.length = m → Vals vs us → sp vs G R E0 →
    codeAny (model P w) Ar (.call (.ref f) ⟨us, []⟩) (CR CX0 out P w G st R E0) st
section
variable {P : Program} {w : World} {K : PySem.W.Frag} {mg : Str → Option Value} {base : Heap} {k : Nat} {f : Addr} {fd : FuncData} {N ps : List Str} {sp : Sp}
theorem FnG.mono {j : Nat} {m : Nat} (F : FnG P w K mg base j f m sp) (h : j ≤ k) : FnG P w K mg base k f m sp := fun Ar out st G us vs R a b => F Ar out st G us vs R a (b.mono h)
theorem FnG.of (F : FnOk P w K mg base CX0 k f fd ps sp) (b : Binds K fd ps []) : FnG P w K mg base k f ps.length sp := fun Ar out st G us vs R _ hr e0 hl r h => by
  have KX : K.In st.heap := e0.mod.kin.keeps fun b o e => (e0.bs b o e).1
  have l2 : us.length = ps.length := r.length.symm.trans hl
  have b2 := b st us KX (by simpa using l2)
  rw [List.append_nil] at b2
  exact F.run Ar out st G ⟨us, []⟩ us vs R E0 hr e0 b2 r h
theorem Fun.okG {x qual : Str} {sm : Stmt} (F : Fun K x qual sm f fd) (S : FnScope N ps (defScope sm)) (b : Binds K fd ps [])
    (body : ∀ (cdv : Value) (Ar : Around) (out : List Env) (st : Shared) (G : Hp) (vs : List V) (R : VK), Ar.guards = some [] → Room k (Ar.deeper (envOfC qual (defScope sm) st.heap.objs.size f cdv)) → sp vs G R E0 →
      ∃ t, PSs (cxOf CX0 P w K mg base N qual (defScope sm) f cdv Ar out st G E0).nox (defBody sm) t ∧ t { nx := fun _ H' => R .non H', rt := R } (start N vs) G) : FnG P w K mg base (k + 1) f ps.length sp := by
  intro Ar out st G us vs R hg hr e0 hl r hsp
  obtain ⟨oc, od, kV, doc, pm, an, cdv, ct, osl, rfl, lk, hcd⟩ := F.ex
  have KX : K.In st.heap := e0.mod.kin.keeps fun b o e => (e0.bs b o e).1
  have l2 : us.length = ps.length := r.length.symm.trans hl
  have b2 := b st us KX (by simpa using l2)
  rw [List.append_nil] at b2
  have kinds : ∀ y ∈ ps.zip us, (defScope sm).names.lookup y.1 = some .local ∨ ((defScope sm).names.lookup y.1 = some .cell ∧ ((cellsFrom (st.heap.objs.size + 1) (defScope sm).names []).lookup y.1).isSome = true) := fun y hy =>
    (S.par y.1 (List.of_mem_zip (a := y.1) (b := y.2) hy).1).imp id fun q => ⟨q, PySem.W.cellsFrom_some _ _ _ (.inl q)⟩
  refine codeAny_call_function hr.depth (KX _ _ lk) rfl S.co S.gen rfl (PySem.W.codeRec_of KX hcd) (b2 _ _ _ _ (wpAny_newFunctionEnv_cells S.kind kinds fun ev hev s1 x => ?_))
  subst hev
  refine ⟨(e0.mod.nolimit.keeps fun b o e => (e0.bs b o e).1).keeps x.toInCall.keep, codeAny_func ?_⟩
  obtain ⟨t, ht, hq⟩ := body cdv Ar out st G vs R hg (hr.deeper _) hsp
  have J : Inv (cxOf CX0 P w K mg base N qual (defScope sm) f cdv Ar out st G E0) [] (start N vs) G s1 := inv_start S hr.hd e0 hl r x
  refine wpAny_mono (ht.nox.run [] s1 (start N vs) G _ J hq) (fun fl s' hs => ?_) fun _ _ z => z
  cases fl with
  | ret u => obtain ⟨v, _, G', J', rv, q⟩ := hs; exact ⟨v, G', J'.os, J'.bare, J'.base, J'.hok, rv, q⟩
  | next => obtain ⟨_, G', J', q⟩ := hs; exact ⟨V.non, G', J'.os, J'.bare, J'.base, J'.hok, rfl, q⟩
  | brk => obtain ⟨_, _, _, q⟩ := hs; exact q.elim
  | cont => obtain ⟨_, _, _, q⟩ := hs; exact q.elim
end
section
variable {X : Cx} {k m : Nat} {f : Addr} {sp : Sp} {x : Str} {p pos : Pos} {e : Expr} {es : List Expr} {t : TA}
theorem run_fnG {pins : List (Addr × Obj)} {st : Shared} {sg : L2.St} {G : Hp} {R : VK} {us : List Value} {vs : List V} (F : FnG X.prog X.w X.K X.mg X.base k f m sp) (hg : X.A.guards = some []) (hr : Room k X.A)
    (J : Inv X pins sg G st) (r : Vals vs us) (hl : vs.length = m) (h : sp vs G R E0) : wpAny (model X.prog X.w) X.A (call (.ref f) us) (EP X pins sg R) X.xe st := by
  refine wpAny_call (codeAny_mono (F X.A X.stack st G us vs R hg hr J.env0 hl r h) fun rr s' hq => ?_)
  cases rr with
  | error e => exact hq.elim
  | ok fl => cases fl with
    | ret u => exact J.after hq
    | next => exact hq.elim
    | brk => exact hq.elim
    | cont => exact hq.elim
def rRepr (K : PySem.W.Frag) : List V → Hp → VK → Prop := fun xs H Q => ∃ v d, xs = [v] ∧ Dp K H v d ∧ d.showable = true ∧ d.hasDict = false ∧ d.shown.length ≤ sizeLine ∧ d.depth ≤ 64 ∧ Q (.str d.shown) H
theorem call_repr (hg : X.A.guards = some []) (hu : X.A.units + 100 < cLine) : CallR X (.builtin "repr") (rRepr X.K) := by
  intro pins st sg G xs us R J r h
  obtain ⟨v, d, rfl, hd, h1, h2, h3, h4, q⟩ := h
  obtain ⟨u, rfl, ru⟩ := r.one
  obtain ⟨as, rd⟩ := Dp.reads J d v u hd ru
  cases rd with
  | none => exact PySem.P.repr_of_none ⟨V.str (PyData.shown .none), G, J.tok _, ⟨_, rfl⟩, q⟩
  | bool b => exact PySem.P.repr_of_bool ⟨V.str (PyData.shown (.bool b)), G, J.tok _, ⟨_, rfl⟩, q⟩
  | int i t => exact PySem.P.repr_of_int (by simpa [PyData.showable] using h1) ⟨V.str (PyData.shown (.int i)), G, J.tok _, ⟨_, rfl⟩, q⟩
  | str x t => exact PySem.P.repr_of_str ⟨V.str (PyData.shown (.str x)), G, J.tok _, ⟨_, rfl⟩, q⟩ (by simpa only [PyData.shown] using h3)
  | list a1 a2 a3 a4 =>
    exact repr_of_reads' (.list a1 a2 a3 a4) h1 (fun z => by rw [h2] at z; cases z) hg (by omega) (fun _ _ e => e) (fun h' u tk hk => ⟨V.str (PyData.shown _), G, J.kept hk, ⟨_, rfl⟩, q⟩) h3
  | tuple a1 a2 a3 a4 =>
    exact repr_of_reads' (.tuple a1 a2 a3 a4) h1 (fun z => by rw [h2] at z; cases z) hg (by omega) (fun _ _ e => e) (fun h' u tk hk => ⟨V.str (PyData.shown _), G, J.kept hk, ⟨_, rfl⟩, q⟩) h3
  | dict _ _ _ _ _ => cases h2
end
structure GD (P : Program) (w : World) (K : PySem.W.Frag) (mg : Str → Option Value) (base : Heap) (x : Str) (k : Nat) (sp : Sp) : Prop where
  ex : ∃ f fd ps, mg x = some (.ref f) ∧ PySem.W.keepIn K (.ref f) = true ∧ Binds K fd ps [] ∧ FnOk P w K mg base CX0 k f fd ps sp
structure GG (P : Program) (w : World) (K : PySem.W.Frag) (mg : Str → Option Value) (base : Heap) (x : Str) (k m : Nat) (sp : Sp) : Prop where
  ex : ∃ f, mg x = some (.ref f) ∧ PySem.W.keepIn K (.ref f) = true ∧ FnG P w K mg base k f m sp
theorem GD.gg {P : Program} {w : World} {K : PySem.W.Frag} {mg : Str → Option Value} {base : Heap} {x : Str} {k m : Nat} {sp : Sp} (G : GD P w K mg base x k sp) (h : ∀ vs H Q E, sp vs H Q E → vs.length = m) : GG P w K mg base x k m sp := by
  obtain ⟨f, fd, ps, h1, h2, h3, h4⟩ := G.ex
  refine ⟨f, h1, h2, fun Ar out st G2 us vs R hg hr e0 hl r hs => ?_⟩
  have e : ps.length = m := (h4.len _ _ _ _ hs).symm.trans (h _ _ _ _ hs)
  exact FnG.of h4 h3 Ar out st G2 us vs R hg hr e0 (hl.trans e.symm) r hs
section
variable {X : Cx} {k m : Nat} {sp : Sp} {x : Str} {p pos : Pos} {e : Expr} {es : List Expr} {t : TA}
theorem pe_c1 (G : GD X.prog X.w X.K X.mg X.base x k sp) (hr : Room k X.A) (ha : PA X (e :: es) t) (gl : Gl X x := by rfl) (hdb : (x == ("__debug__" : Str)) = false := by decide)
    (he : starEach (e :: es) X.env = (false, eval e X.env) :: starEach es X.env := by rfl) (hpl : (backTo pos (starEach es X.env)).any (·.1) = false := by rfl) : PE X (.Call (.Name x p) (e :: es) [] pos) (tCall sp [] E0 t) := by
  obtain ⟨f, fd, ps, h1, h2, h3, h4⟩ := G.ex
  exact pe_call h4 hr gl h1 h2 h3 .nil pass0 ha hdb he hpl
def tCallG (sp : Sp) (m : Nat) (t : TA) : TE := fun σ H Q => t σ H fun vs H1 => vs.length = m ∧ sp vs H1 Q E0
theorem pe_gd (G : GG X.prog X.w X.K X.mg X.base x k m sp) (hg : X.A.guards = some []) (hr : Room k X.A) (ha : PA X (e :: es) t) (gl : Gl X x := by rfl) (hdb : (x == ("__debug__" : Str)) = false := by decide)
    (he : starEach (e :: es) X.env = (false, eval e X.env) :: starEach es X.env := by rfl) (hpl : (backTo pos (starEach es X.env)).any (·.1) = false := by rfl) : PE X (.Call (.Name x p) (e :: es) [] pos) (tCallG sp m t) := by
  obtain ⟨f, h1, h2, h4⟩ := G.ex
  refine ⟨fun pins st sg G R J h => wpAny_Call_Name_kw (ld_glob J gl h1 ?_ hdb)⟩
  refine PySem.W.callWith_K (h₀ := X.base) J.ok.mod.kin h2 (thn (ha.run pos pins st sg G _ J h) fun us s1 ⟨vs, G1, J1, r, hl, q⟩ => ⟨J1.kIn, ?_⟩) he hpl
  exact run_fnG h4 hg hr J1 r hl q
end
structure GM (P : Program) (w : World) (K : PySem.W.Frag) (mg : Str → Option Value) (base : Heap) (x : Str) (C : Addr) (k : Nat) (dvs : List V) (sp : Sp) : Prop where
  ex : ∃ f fd ps ds, mg x = some (.ref C) ∧ Mk K C f ∧ Binds K fd ps ds ∧ Vals dvs ds ∧ FnOk P w K mg base CX0 k f fd ps sp
structure GP (P : Program) (w : World) (K : PySem.W.Frag) (mg : Str → Option Value) (base : Heap) (C : Addr) (f : Str) (k : Nat) (sp : Sp) : Prop where
  ex : ∃ p g, PySem.W.findIn K (.ref C) f = some (some (.ref p)) ∧ PySem.W.specialIn K (.ref p) "__get__" = some (some (.builtin "property.__get__")) ∧ PySem.W.takesIn K (.ref p) = some true ∧ (∃ rest, PySem.W.recIn K p "property" = some (.ref g :: rest)) ∧ FnR P w K mg base CX0 k g sp
structure GMe (P : Program) (w : World) (K : PySem.W.Frag) (mg : Str → Option Value) (base : Heap) (C : Addr) (m : Str) (k : Nat) (sp : Sp) : Prop where
  ex : ∃ g, Meth K C m g ∧ FnR P w K mg base CX0 k g sp
structure GB (P : Program) (w : World) (K : PySem.W.Frag) (mg : Str → Option Value) (base : Heap) (C : Addr) (op : Operator) (k : Nat) (sp : Sp) : Prop where
  ex : ∃ g, PySem.W.findIn K (.ref C) (PySem.dunder op.info.2) = some (some (.ref g)) ∧ PySem.W.isFn K (.ref g) = true ∧ FnR P w K mg base CX0 k g sp
  first : PySem.W.selfFirst K C = true
  right : ∃ fo ro rc, PySem.W.findIn K (.ref C) (PySem.dunderR op.info.2) = some rc ∧ (rc = none ∨ ∃ g : Addr, rc = some (.ref g)) ∧ PySem.W.findIn K (.type "int") (PySem.dunder op.info.2) = some fo ∧ PySem.W.findIn K (.type "int") (PySem.dunderR op.info.2) = some ro ∧ PySem.W.subIn K (.type "int") (.ref C) = some false
structure GN (P : Program) (w : World) (K : PySem.W.Frag) (mg : Str → Option Value) (base : Heap) (C : Addr) (k : Nat) (sp : Sp) : Prop where
  ex : ∃ g, PySem.W.findIn K (.ref C) "__neg__" = some (some (.ref g)) ∧ PySem.W.isFn K (.ref g) = true ∧ FnR P w K mg base CX0 k g sp
structure GE (P : Program) (w : World) (K : PySem.W.Frag) (mg : Str → Option Value) (base : Heap) (C : Addr) (k : Nat) (sp : Sp) : Prop where
  ex : ∃ g, PySem.W.findIn K (.ref C) "__eq__" = some (some (.ref g)) ∧ PySem.W.isFn K (.ref g) = true ∧ FnR P w K mg base CX0 k g sp
  ne : PySem.W.findIn K (.ref C) "__ne__" = some (some (.builtin "object.__ne__"))
  ob : PySem.W.mroIn K C (.type "object") = some true
theorem hu64 {A : Around} {k : Nat} (hr : Room k A) : A.units + 64 < cLine := by have := hr.un; omega
theorem hu100 {A : Around} {k : Nat} (hr : Room k A) : A.units + 100 < cLine := by have := hr.un; omega
theorem ite_dec {c : Prop} [Decidable c] {A B : Prop} (h : c → A) (k : ¬ c → B) : if decide c = true then A else B := by
  by_cases z : c
  · rw [decide_eq_true z, if_pos rfl]; exact h z
  · rw [decide_eq_false z, if_neg Bool.false_ne_true]; exact k z
inductive TyY (K : PySem.W.Frag) (H : Hp) : V → Value → Prop where
  | x {v : V} {t : Value} (h : TyX K H v t) : TyY K H v t
  | slt {a C dx : Addr} {vs : List (Option V)} (h : Slt H a C dx vs) (c : SCls K C) (i : SIsi K C) : TyY K H (.ref a) (.ref C)
def rIsiU (K : PySem.W.Frag) : List V → Hp → VK → Prop := fun xs H Q => ∃ (x c : V) (t u : Value) (b : Bool), xs = [x, c] ∧ ClsV c u ∧ TyY K H x t ∧ PySem.W.kitOne K t u = some b ∧ Q (.bl b) H
theorem call_isiU {X : Cx} : CallR X (.builtin "isinstance") (rIsiU X.K) := by
  intro pins st sg G xs us R J r h
  obtain ⟨x, c, t, u, b, rfl, hc, ty, hk, q⟩ := h
  cases ty with
  | x ty => exact call_isi pins st sg G _ us R J r ⟨x, c, t, u, b, rfl, hc, ty, hk, q⟩
  | slt hs c' i => exact call_isiSl u pins st sg G _ us R J r ⟨_, _, _, _, c, b, rfl, by cases hc <;> rfl, fun w rw => hc.eq rw, hs, c', i, hk, q⟩
theorem TyY.looks {X : Cx} {pins : List (Addr × Obj)} {sg : L2.St} {G : Hp} {st : Shared} {v : V} {t u : Value} (J : Inv X pins sg G st) (r : RelV v u) (ty : TyY X.K G v t) : PySem.W.Looks (model X.prog X.w) st.heap (typeOf u) t := by
  cases ty with
  | x ty => obtain ⟨Pk, Z, p, _⟩ := kit_of J r ty; exact Z.ty _ _ J.kIn p
  | slt hs c i => cases (show u = Value.ref _ from r); obtain ⟨_, _, _, ja, _⟩ := slt_inst J hs; exact ja.type
def Bd (n : Nat) (i : Int) : Prop := i.natAbs < 2 ^ n
theorem Bd.mono {n m : Nat} {i : Int} (h : Bd n i) (l : n ≤ m) : Bd m i := Nat.lt_of_lt_of_le h (Nat.pow_le_pow_right (by decide) l)
theorem Bd.mul {n m : Nat} {i j : Int} (h : Bd n i) (k : Bd m j) : Bd (n + m) (i * j) := wide_lt h k
theorem Bd.add {n m : Nat} {i j : Int} (h : Bd n i) (k : Bd n j) (l : n + 1 = m) : Bd m (i + j) := by
  unfold Bd at *; subst l; rw [Nat.pow_succ]; omega
theorem Bd.sub {n m : Nat} {i j : Int} (h : Bd n i) (k : Bd n j) (l : n + 1 = m) : Bd m (i - j) := by
  unfold Bd at *; subst l; rw [Nat.pow_succ]; omega
theorem Bd.le {n : Nat} {i j : Int} (h : Bd n j) (l : i.natAbs ≤ j.natAbs) : Bd n i := Nat.lt_of_le_of_lt l h
theorem Bd.mulx {n m : Nat} {i j : Int} (h : Bd n i) (k : Bd m j) (l : n + m ≤ 134217728) : CMulX i j := mulx_ok h k l
theorem Bd.dvz {n : Nat} {i j : Int} (h : Bd n j) (h0 : j ≠ 0) (l : n ≤ 9000) : CDvz i j := by
  refine ⟨h0, ?_⟩
  have a : j.natAbs ≠ 0 := by omega
  have b := (Nat.log2_lt a).mpr h
  omega
theorem bd_sm {i : Int} {n : Nat} (h : i.natAbs < 1024) (l : 10 ≤ n) : Bd n i := Nat.lt_of_lt_of_le h (Nat.le_trans (show 1024 ≤ 2 ^ 10 by decide) (Nat.pow_le_pow_right (by decide) l))
structure Nm where
  t : Int
  p : Int
  r : Int
  b : Int
deriving DecidableEq
def gcd3 (t p b : Int) : Int := ((Nat.gcd (Nat.gcd t.natAbs p.natAbs) b.natAbs : Nat) : Int)
def share (t p b : Int) : Int := if 0 < b then gcd3 t p b else -gcd3 t p b
def mkNm (t p r b : Int) : Nm := ⟨t.fdiv (share t p b), p.fdiv (share t p b), if p = 0 then 0 else r, b.fdiv (share t p b)⟩
def b2 (c : Bool) : Int := if c then 1 else 0
def isq (n : Nat) : Nat := if h : n = 0 then 0 else if (2 * isq (n / 4) + 1) * (2 * isq (n / 4) + 1) ≤ n then 2 * isq (n / 4) + 1 else 2 * isq (n / 4)
termination_by n
decreasing_by all_goals omega
def isRootB (v : Int) : Bool := decide (2 ≤ v) && decide (v ≤ 999) && ((List.range (isq v.toNat - 1)).map fun i : Nat => !decide (v.fmod ((2 + (i : Int)) * (2 + (i : Int))) = 0)).all id
structure Gd (k : Nat) (n : Nm) : Prop where
  b0 : n.b ≠ 0
  t : Bd k n.t
  p : Bd k n.p
  b : Bd k n.b
  r : Bd 10 n.r
  r0 : 0 ≤ n.r
structure Free (mg : Str → Option Value) : Prop where
  b_abs : mg "abs" = none
  b_all : mg "all" = none
  b_bool : mg "bool" = none
  b_divmod : mg "divmod" = none
  b_int : mg "int" = none
  b_isinstance : mg "isinstance" = none
  b_len : mg "len" = none
  b_list : mg "list" = none
  b_max : mg "max" = none
  b_min : mg "min" = none
  b_range : mg "range" = none
  b_repr : mg "repr" = none
  b_str : mg "str" = none
  b_tuple : mg "tuple" = none
def spIsWhole (K : PySem.W.Frag) : Sp := fun vs H Q _ => ∃ x t b, vs = [x] ∧ TyY K H x t ∧ PySem.W.kitOne K t (.type "int") = some b ∧ (b = true → ∃ i, x = .int i) ∧ Q (.bl b) H
section
variable {P : Program} {w : World} {K : PySem.W.Frag} {mg : Str → Option Value} {base : Heap} {f : Addr} {fd : FuncData}
theorem sc_is_whole : FnScope ["value"] ["value"] (defScope (topS 12)) := ⟨rfl, rfl, rfl, by decide +kernel, rfl, by decide +kernel, by decide +kernel⟩
theorem ok_is_whole (F : Fun K "is_whole" "is_whole" (topS 12) f fd) (fr : Free mg) : FnOk P w K mg base CX0 2 f fd ["value"] (spIsWhole K) := by
  refine F.ok sc_is_whole (fun vs H Q E ⟨_, _, _, e, _⟩ => by rw [e]; rfl) (fun cdv A outer s H vs Q E hr h => ⟨_, (pss_one (ps_ret (pe_and (pe_callB call_isiU (by rfl) fr.b_isinstance (by decide +kernel) (pa_cons (pv 0) (pa_cons (pe_bltn (v := .ty "int") (by rfl) fr.b_int (by decide +kernel) rfl) pa_nil))) (pe_one (pe_not (pe_callB call_isiU (by rfl) fr.b_isinstance (by decide +kernel) (pa_cons (pv 0) (pa_cons (pe_bltn (v := .ty "bool") (by rfl) fr.b_bool (by decide +kernel) rfl) pa_nil)))))))), ?_⟩)
  obtain ⟨x, t, b, rfl, ty, hk, hi, q⟩ := h
  refine ⟨x, rfl, x, .ty "int", t, _, b, rfl, .ty _, ty, hk, b, rfl, ?_⟩
  cases b with
  | false => exact q
  | true =>
    obtain ⟨i, rfl⟩ := hi rfl
    exact ⟨_, rfl, _, .ty "bool", _, _, false, rfl, .ty _, .x (.base (.int i)), kit_ty (by decide +kernel), false, rfl, q⟩
structure NTxt (K : PySem.W.Frag) (mg : Str → Option Value) (CN CF : Addr) : Prop where
  gN : mg "Number" = some (.ref CN)
  gF : mg "Form" = some (.ref CF)
  cN : SCls K CN
  cF : SCls K CF
  yN : SIsi K CN
  yF : SIsi K CF
  sN_top : ∃ p, Slot1 K CN "own_top" p 3
  sN_part : ∃ p, Slot1 K CN "own_part" p 1
  sN_root : ∃ p, Slot1 K CN "own_root" p 2
  sN_bottom : ∃ p, Slot1 K CN "own_bottom" p 0
  sF_top : ∃ p, Slot1 K CF "own_top" p 3
  sF_part : ∃ p, Slot1 K CF "own_part" p 1
  sF_root : ∃ p, Slot1 K CF "own_root" p 2
  sF_bottom : ∃ p, Slot1 K CF "own_bottom" p 0
  iNN : PySem.W.kitOne K (.ref CN) (.ref CN) = some true
  iFF : PySem.W.kitOne K (.ref CF) (.ref CF) = some true
  iIF : PySem.W.kitOne K (.type "int") (.ref CF) = some false
  iIN : PySem.W.kitOne K (.type "int") (.ref CN) = some false
  iNI : PySem.W.kitOne K (.ref CN) (.type "int") = some false
def sl4 (n : Nm) : List (Option V) := [some (.int n.b), some (.int n.p), some (.int n.r), some (.int n.t)]
def At4 (C : Addr) (H : Hp) (v : V) (n : Nm) : Prop := ∃ a dx, v = .ref a ∧ Slt H a C dx (sl4 n)
theorem At4.same {C : Addr} {H H' : Hp} {v : V} {n : Nm} (h : At4 C H v n) (s : Same H H') : At4 C H' v n := by
  obtain ⟨a, dx, rfl, h⟩ := h
  refine ⟨a, dx, rfl, ?_⟩
  rcases h with ⟨_, h2⟩ | ⟨h1, h2⟩
  · cases h2
  · exact .inr ⟨s _ _ h1, s _ _ h2⟩
def AtN (C : Addr) (H H' : Hp) (v : V) (n : Nm) : Prop := ∃ a dx, v = .ref a ∧ Slt H' a C dx (sl4 n) ∧ H a = none ∧ H dx = none
theorem AtN.at {C : Addr} {H H' : Hp} {v : V} {n : Nm} (h : AtN C H H' v n) : At4 C H' v n := let ⟨a, dx, e, s, _⟩ := h; ⟨a, dx, e, s⟩
def okRoot (r p : Int) : Prop := (r = 0 ∧ p = 0) ∨ isRootB r = true
def Arg4 (CF : Addr) (H : Hp) (rest : List V) (n : Nm) : Prop := (∃ v, rest = [v, .int 0, .int 0, .int 1] ∧ At4 CF H v n) ∨ ∃ t p r b, rest = [.int t, .int p, .int r, .int b] ∧ b ≠ 0 ∧ okRoot r p ∧ Bd 9000 b ∧ n = mkNm t p r b
section
variable {P : Program} {w : World} {K : PySem.W.Frag} {mg : Str → Option Value} {base : Heap} {f CN CF : Addr} {fd : FuncData}
theorem Arg4.same {H H' : Hp} {vs : List V} {n : Nm} (h : Arg4 CF H vs n) (s : Same H H') : Arg4 CF H' vs n := h.imp (fun ⟨v, e, h⟩ => ⟨v, e, h.same s⟩) id
theorem At4.ty {H : Hp} {v : V} {n : Nm} {C : Addr} (h : At4 C H v n) (c : SCls K C) (i : SIsi K C) : TyY K H v (.ref C) := by
  obtain ⟨a, dx, rfl, h⟩ := h
  exact .slt h c i
end
end
inductive All2 {α : Type} (f : V → α → Prop) : List V → List α → Prop where
  | nil : All2 f [] []
  | cons {v : V} {n : α} {vs : List V} {ns : List α} (h : f v n) (t : All2 f vs ns) : All2 f (v :: vs) (n :: ns)
section
variable {α : Type} {f g : V → α → Prop} {vs ws : List V} {ns ms : List α} {v : V} {n : α}
theorem All2.append (h : All2 f vs ns) (k : All2 f ws ms) : All2 f (vs ++ ws) (ns ++ ms) := by
  induction h with
  | nil => exact k
  | cons h _ ih => exact .cons h ih
theorem All2.snoc (h : All2 f vs ns) (k : f v n) : All2 f (vs ++ [v]) (ns ++ [n]) := h.append (.cons k .nil)
theorem All2.imp (h : All2 f vs ns) (k : ∀ v n, f v n → g v n) : All2 g vs ns := by
  induction h with
  | nil => exact .nil
  | cons h _ ih => exact .cons (k _ _ h) ih
theorem All2.len (h : All2 f vs ns) : vs.length = ns.length := by
  induction h with
  | nil => rfl
  | cons h _ ih => rw [List.length_cons, List.length_cons, ih]
theorem All2.get (h : All2 f vs ns) {i : Nat} {n : α} (e : ns[i]? = some n) : ∃ v, vs[i]? = some v ∧ f v n := by
  induction h generalizing i with
  | nil => simp at e
  | cons h _ ih => cases i with
    | zero => simp at e; subst e; exact ⟨_, rfl, h⟩
    | succ i => simpa using ih (by simpa using e)
theorem All2.set (h : All2 f vs ns) (i : Nat) (k : f v n) : All2 f (vs.set i v) (ns.set i n) := by
  induction h generalizing i with
  | nil => exact .nil
  | cons h t ih => cases i with
    | zero => exact .cons k t
    | succ i => exact .cons h (ih i)
theorem All2.erase (h : All2 f vs ns) (i : Nat) : All2 f (vs.eraseIdx i) (ns.eraseIdx i) := by
  induction h generalizing i with
  | nil => exact .nil
  | cons h t ih => cases i with
    | zero => exact t
    | succ i => exact .cons h (ih i)
theorem All2.take (h : All2 f vs ns) (i : Nat) : All2 f (vs.take i) (ns.take i) := by
  induction h generalizing i with
  | nil => simp; exact .nil
  | cons h t ih => cases i with
    | zero => simp; exact .nil
    | succ i => exact .cons h (ih i)
theorem All2.drop (h : All2 f vs ns) (i : Nat) : All2 f (vs.drop i) (ns.drop i) := by
  induction h generalizing i with
  | nil => simp; exact .nil
  | cons h t ih => cases i with
    | zero => exact .cons h t
    | succ i => simpa using ih i
theorem All2.to_map (t : α → V) (k : ∀ v n, f v n → v = t n) (h : All2 f vs ns) : vs = ns.map t := by
  induction h with
  | nil => rfl
  | cons h _ ih => rw [k _ _ h, ih]; rfl
end
def SameB (p : Addr) (H H' : Hp) : Prop := ∀ b o, b ≠ p → H b = some o → H' b = some o
theorem SameB.refl (p : Addr) (H : Hp) : SameB p H H := fun _ _ _ h => h
theorem SameB.trans {p : Addr} {H H1 H2 : Hp} (a : SameB p H H1) (b : SameB p H1 H2) : SameB p H H2 := fun c o n h => b c o n (a c o n h)
theorem Same.b {p : Addr} {H H' : Hp} (a : Same H H') : SameB p H H' := fun b o _ h => a b o h
theorem SameB.upd {p : Addr} {H H' : Hp} {o : HO} (a : SameB p H H') : SameB p H (upd H' p o) := fun b u n h => by rw [upd_ne n]; exact a b u n h
theorem same_upd {H : Hp} {p : Addr} {o : HO} (h : H p = none) : Same H (upd H p o) := fun b u e => by rw [upd_ne (ne_of_none e h)]; exact e
def Dice (p : Addr) (H : Hp) (c : Nat) : Prop := ∃ d0 d1 d2 : Int, H p = some (.lst [.int d0, .int d1, .int d2]) ∧ 0 ≤ d0 ∧ Bd 420 d0 ∧ Bd 200 d1 ∧ 0 ≤ d2 ∧ d2 ≤ c
theorem Dice.same {p : Addr} {H H' : Hp} {c : Nat} (d : Dice p H c) (s : Same H H') : Dice p H' c := by
  obtain ⟨d0, d1, d2, h, r⟩ := d
  exact ⟨d0, d1, d2, s _ _ h, r⟩
theorem Dice.mono {p : Addr} {H : Hp} {c c' : Nat} (d : Dice p H c) (l : c ≤ c') : Dice p H c' := by
  obtain ⟨d0, d1, d2, h, a, b, e, f, g⟩ := d
  exact ⟨d0, d1, d2, h, a, b, e, f, by omega⟩
structure Er where
  cls : Str
  val : PyData
structure M (α : Type) where
  wp : Nat → (α → Nat → Prop) → (Er → Prop) → Prop
  mono : ∀ (c : Nat) {P Q : α → Nat → Prop} {X Y : Er → Prop}, (∀ a d, P a d → Q a d) → (∀ e, X e → Y e) → wp c P X → wp c Q Y
namespace M
variable {α β γ : Type}
def ret (a : α) : M α := ⟨fun c Q _ => Q a c, fun _ _ _ _ _ h _ k => h _ _ k⟩
def bind (m : M α) (f : α → M β) : M β := ⟨fun c Q X => m.wp c (fun a d => (f a).wp d Q X) X, fun c _ _ _ _ h x k => m.mono c (fun a d q => (f a).mono d h x q) x k⟩
def need (p : Prop) (m : M α) : M α := ⟨fun c Q X => p ∧ m.wp c Q X, fun c _ _ _ _ h x k => ⟨k.1, m.mono c h x k.2⟩⟩
def anyOf (P : α → Prop) : M α := ⟨fun c Q _ => ∀ a, P a → Q a c, fun _ _ _ _ _ h _ k a p => h _ _ (k a p)⟩
def the (o : Option α) : M α := ⟨fun c Q _ => ∃ a, o = some a ∧ Q a c, fun _ _ _ _ _ h _ ⟨a, e, k⟩ => ⟨a, e, h _ _ k⟩⟩
def ifb (b : Bool) (m n : M α) : M α := ⟨fun c Q X => if b = true then m.wp c Q X else n.wp c Q X, fun c _ _ _ _ h x k => by
  by_cases e : b = true
  · rw [if_pos e] at k ⊢; exact m.mono c h x k
  · rw [if_neg e] at k ⊢; exact n.mono c h x k⟩
def raise (e : Er) : M α := ⟨fun _ _ X => X e, fun _ _ _ _ _ _ x k => x _ k⟩
def still (m : M α) : M α := ⟨fun c Q X => m.wp 0 (fun a _ => Q a c) X, fun _ _ _ _ _ h x k => m.mono 0 (fun a _ q => h _ _ q) x k⟩
def roll (t : Int) : M Int := ⟨fun c Q _ => c < 2 ^ 60 ∧ 0 < t ∧ Bd 9000 t ∧ ∀ r, 0 ≤ r → r < t → Q r (c + 1), fun c _ _ _ _ h _ k => ⟨k.1, k.2.1, k.2.2.1, fun r a b => h _ _ (k.2.2.2 r a b)⟩⟩
def pick (xs : List α) : M α := ⟨fun c Q _ => c < 2 ^ 60 ∧ 0 < xs.length ∧ xs.length ≤ 1000 ∧ ∀ x ∈ xs, Q x (c + 1), fun c _ _ _ _ h _ k => ⟨k.1, k.2.1, k.2.2.1, fun x a => h _ _ (k.2.2.2 x a)⟩⟩
end M
def lsty : HO → Bool
  | .lst _ => true
  | .dK _ => true
  | .dT _ => true
  | .set _ _ => true
  | _ => false
def NwL (H : Hp) (D : Addr) : Prop := H D = none ∨ ∃ o, H D = some o ∧ lsty o = true
theorem NwL.lst {H : Hp} {D : Addr} {vs : List V} (h : H D = some (.lst vs)) : NwL H D := .inr ⟨_, h, rfl⟩
theorem NwL.dK {H : Hp} {D : Addr} {kvs : List (Key × V)} (h : H D = some (.dK kvs)) : NwL H D := .inr ⟨_, h, rfl⟩
theorem some_ne {H : Hp} {b : Addr} {o : HO} (h : H b = some o) : H b ≠ none := fun z => by rw [h] at z; cases z
def ntB : HO → Bool
  | .tbl _ => false
  | _ => true
def Tb (F H : Hp) (P : Addr) (q : Str) : Prop := F P = none ∧ ∃ ps : Array Value, H P = some (.tbl ps) ∧ TriplesOk ps.toList ∧ ∀ (pos : Pos) (cv : Value), codeAmong pos ps.toList = some cv → ∃ c, cv = .ref c ∧ F c = some (LamX.CodeO c q)
theorem Tb.go {F H F' H' : Hp} {P : Addr} {q : Str} (h : Tb F H P q) (fP : F' P = none) (hP : ∀ o, H P = some o → H' P = some o) (s : Same F F') : Tb F' H' P q := by
  obtain ⟨_, ps, h1, h2, h3⟩ := h
  refine ⟨fP, ps, hP _ h1, h2, fun pos cv hc => ?_⟩
  obtain ⟨c, e, hc⟩ := h3 pos cv hc
  exact ⟨c, e, s _ _ hc⟩
theorem Tb.ne {F H : Hp} {P D : Addr} {q : Str} (h : Tb F H P q) (n : H D = none) : P ≠ D := fun e => by
  obtain ⟨_, ps, h1, _⟩ := h
  rw [e, n] at h1; cases h1
theorem Tb.nd {F H : Hp} {P D : Addr} {q : Str} {o : HO} (h : Tb F H P q) (n : H D = some o) (nt : ntB o = true) : P ≠ D := fun e => by
  obtain ⟨_, ps, h1, _⟩ := h
  rw [e, n] at h1; cases h1; cases nt
def tbN : List (Addr × Str) := [(184, ((Str.ofString "_law_listed") ++ (Str.ofString ".<locals>.") ++ (Str.ofString "<lambda>"))), (189, ((Str.ofString "_law_refused") ++ (Str.ofString ".<locals>.") ++ (Str.ofString "<lambda>")))]
def TbA (F H : Hp) : Prop := ∀ p ∈ tbN, Tb F H p.1 p.2
structure ExtX (p : Option Addr) (F H F' H' : Hp) : Prop where
  fz : Same F F'
  sub : Same F' H'
  hpn : ∀ b o, p ≠ some b → ntB o = true → H b = some o → H' b = some o
  old : ∀ b, H b ≠ none → F' b = F b
  on : ∀ b, H b ≠ none → H' b ≠ none
  tb : TbA F H → TbA F' H'
theorem ExtX.hp {p : Option Addr} {F H F' H' : Hp} (x : ExtX p F H F' H') (b : Addr) (o : HO) (n : p ≠ some b) (h : H b = some o) (nt : ntB o = true := by rfl) : H' b = some o := x.hpn b o n nt h
theorem ExtX.refl {p : Option Addr} {F H : Hp} (s : Same F H) : ExtX p F H F H := ⟨Same.refl F, s, fun _ _ _ _ h => h, fun _ _ => rfl, fun _ h => h, fun h => h⟩
theorem ExtX.trans {p : Option Addr} {F H F1 H1 F2 H2 : Hp} (a : ExtX p F H F1 H1) (b : ExtX p F1 H1 F2 H2) : ExtX p F H F2 H2 :=
  ⟨a.fz.trans b.fz, b.sub, fun c o n t h => b.hpn c o n t (a.hpn c o n t h), fun c n => (b.old c (a.on c n)).trans (a.old c n), fun c n => b.on c (a.on c n), fun h => b.tb (a.tb h)⟩
theorem ExtX.new {p : Option Addr} {F H : Hp} (s : Same F H) {q : Addr} (n : H q = none) (o : HO) : ExtX p F H (upd F q o) (upd H q o) := by
  have nF : F q = none := s.free n
  refine ⟨same_upd nF, fun b u e => ?_, fun b u _ _ e => same_upd n b u e, fun b h => ?_, fun b nb => ?_, fun ta r hr => (ta r hr).go ((upd_ne ((ta r hr).ne n)).trans (ta r hr).1) (same_upd n r.1) (same_upd nF)⟩
  · by_cases c : b = q
    · subst c; rw [upd_same] at e ⊢; exact e
    · rw [upd_ne c] at e ⊢; exact s _ _ e
  · exact upd_ne fun z => h (by rw [z]; exact n)
  · by_cases c : b = q
    · subst c; rw [upd_same]; simp
    · rw [upd_ne c]; exact nb
theorem ExtX.own {p : Option Addr} {F H : Hp} (s : Same F H) {q : Addr} (n : H q = none) (o : HO) : ExtX p F H F (upd H q o) := by
  refine ⟨Same.refl F, fun b u e => same_upd n _ _ (s _ _ e), fun b u _ _ e => same_upd n b u e, fun b _ => rfl, fun b nb => ?_, fun ta r hr => (ta r hr).go (ta r hr).1 (same_upd n r.1) (Same.refl F)⟩
  by_cases c : b = q
  · subst c; rw [upd_same]; simp
  · rw [upd_ne c]; exact nb
theorem ExtX.same {p : Option Addr} {F H H' : Hp} (s : Same F H) (e : Same H H') : ExtX p F H F H' :=
  ⟨Same.refl F, s.trans e, fun b o _ _ h => e b o h, fun _ _ => rfl, fun b nb => by
    cases q : H b with
    | none => exact absurd q nb
    | some o => rw [e b o q]; simp, fun ta r hr => (ta r hr).go (ta r hr).1 (fun o z => e r.1 o z) (Same.refl F)⟩
structure Cn where
  p : Option Addr
  F0 : Hp
  H0 : Hp
structure Wo (k : Cn) (F H : Hp) (c : Nat) : Prop where
  sub : Same F H
  ext : ExtX k.p k.F0 k.H0 F H
  dice : ∀ a, k.p = some a → F a = none ∧ k.H0 a ≠ none ∧ Dice a H c
theorem Wo.new {k : Cn} {F H : Hp} {c : Nat} (w : Wo k F H c) {q : Addr} (n : H q = none) (o : HO) : Wo k (upd F q o) (upd H q o) c := by
  have x := ExtX.new (p := k.p) w.sub n o
  refine ⟨x.sub, w.ext.trans x, fun a e => ?_⟩
  obtain ⟨h1, h2, h3⟩ := w.dice a e
  have ne : a ≠ q := fun z => by
    subst z
    obtain ⟨_, _, _, h, _⟩ := h3
    rw [h] at n; cases n
  refine ⟨by rw [upd_ne ne]; exact h1, h2, h3.same (same_upd n)⟩
theorem Wo.own {k : Cn} {F H : Hp} {c : Nat} (w : Wo k F H c) {q : Addr} (n : H q = none) (o : HO) : Wo k F (upd H q o) c := by
  have x := ExtX.own (p := k.p) w.sub n o
  refine ⟨x.sub, w.ext.trans x, fun a e => ?_⟩
  obtain ⟨h1, h2, h3⟩ := w.dice a e
  exact ⟨h1, h2, h3.same (same_upd n)⟩
theorem Wo.call {k : Cn} {F H F' H' : Hp} {c : Nat} (w : Wo k F H c) (x : ExtX none F H F' H') : ExtX k.p F H F' H' ∧ Wo k F' H' c := by
  have y : ExtX k.p F H F' H' := ⟨x.fz, x.sub, fun b o _ t h => x.hpn b o (fun z => nomatch z) t h, x.old, x.on, x.tb⟩
  refine ⟨y, x.sub, w.ext.trans y, fun a e => ?_⟩
  obtain ⟨h1, h2, h3⟩ := w.dice a e
  obtain ⟨d0, d1, d2, h, r⟩ := h3
  exact ⟨(x.old a (some_ne h)).trans h1, h2, d0, d1, d2, x.hp a _ (fun z => nomatch z) h, r⟩
structure Rp (α : Type) where
  r : Hp → V → α → Prop
  st : ∀ {F F' : Hp} {v : V} {a : α}, Same F F' → r F v a → r F' v a
def rInt : Rp Int := ⟨fun _ v i => v = .int i, fun _ h => h⟩
def rBl : Rp Bool := ⟨fun _ v b => v = .bl b, fun _ h => h⟩
def rStr : Rp Str := ⟨fun _ v x => v = .str x, fun _ h => h⟩
def rNon : Rp Unit := ⟨fun _ v _ => v = .non, fun _ h => h⟩
def rLst {α : Type} (K : PySem.W.Frag) (R : Rp α) : Rp (List α) :=
  ⟨fun F v xs => ∃ p vs, v = .ref p ∧ SqL K F p vs ∧ All2 (R.r F) vs xs, fun s ⟨p, vs, e, h, t⟩ => ⟨p, vs, e, s.seq h, t.imp fun _ _ g => R.st s g⟩⟩
theorem same_seqT {K : PySem.W.Frag} {H H' : Hp} {a : Addr} {xs : List V} (e : Same H H') (h : SqT K H a xs) : SqT K H' a xs := by
  rcases h with (h | ⟨o, h⟩) | h
  · exact .inl (.inl (e _ _ h))
  · exact .inl (.inr ⟨o, e _ _ h⟩)
  · exact .inr h
def rTup {α : Type} (K : PySem.W.Frag) (R : Rp α) : Rp (List α) :=
  ⟨fun F v xs => ∃ p vs, v = .ref p ∧ SqT K F p vs ∧ All2 (R.r F) vs xs, fun s ⟨p, vs, e, h, t⟩ => ⟨p, vs, e, same_seqT s h, t.imp fun _ _ g => R.st s g⟩⟩
structure RA (α : Type) where
  r : Hp → List V → α → Prop
  st : ∀ {F F' : Hp} {vs : List V} {a : α}, Same F F' → r F vs a → r F' vs a
  n : Nat
  len : ∀ {F : Hp} {vs : List V} {a : α}, r F vs a → vs.length = n
def aNil : RA Unit := ⟨fun _ vs _ => vs = [], fun _ h => h, 0, fun h => by rw [h]; rfl⟩
def aCons {α β : Type} (R : Rp α) (S : RA β) : RA (α × β) :=
  ⟨fun F vs a => ∃ v ws, vs = v :: ws ∧ R.r F v a.1 ∧ S.r F ws a.2, fun s ⟨v, ws, e, h, t⟩ => ⟨v, ws, e, R.st s h, S.st s t⟩, S.n + 1, fun ⟨v, ws, e, h, t⟩ => by rw [e, List.length_cons, S.len t]⟩
def rTx {α : Type} (K : PySem.W.Frag) (S : RA α) : Rp α :=
  ⟨fun F v a => ∃ p vs, v = .ref p ∧ SqT K F p vs ∧ S.r F vs a, fun s ⟨p, vs, e, h, t⟩ => ⟨p, vs, e, same_seqT s h, S.st s t⟩⟩
structure SR (α : Type) where
  r : Option Addr → Hp → Hp → Hp → Option V → α → Prop
  own : Option V → Option Addr
  step : ∀ {p : Option Addr} {H0 F H F' H' : Hp} {o : Option V} {a : α}, ExtX p F H F' H' → r p H0 F H o a → r p H0 F' H' o a
  upd : ∀ {p : Option Addr} {H0 F H : Hp} {o : Option V} {a : α} {D : Addr} {x : HO}, own o ≠ some D → NwL H D → r p H0 F H o a → r p H0 F (L2.upd H D x) o a
  fz : ∀ {p : Option Addr} {H0 F H : Hp} {o : Option V} {a : α} {D : Addr} {x : HO}, Same F (L2.upd F D x) → own o ≠ some D → NwL H D → r p H0 F H o a → r p H0 (L2.upd F D x) H o a
  has : ∀ {p : Option Addr} {H0 F H : Hp} {o : Option V} {a : α} {D : Addr}, r p H0 F H o a → own o = some D → H D ≠ none ∧ F D = none ∧ H0 D = none ∧ p ≠ some D
def sUn : SR Unit := ⟨fun _ _ _ _ _ _ => True, fun _ => none, fun _ h => h, fun _ _ h => h, fun _ _ _ h => h, fun _ e => nomatch e⟩
def sVal {α : Type} (R : Rp α) : SR α :=
  ⟨fun _ _ F _ o a => ∃ v, o = some v ∧ R.r F v a, fun _ => none, fun x ⟨v, e, h⟩ => ⟨v, e, R.st x.fz h⟩, fun _ _ h => h, fun s _ _ ⟨v, e, h⟩ => ⟨v, e, R.st s h⟩, fun _ e => nomatch e⟩
def sDice : SR Unit := ⟨fun p _ _ _ o _ => ∃ a, o = some (.ref a) ∧ p = some a, fun _ => none, fun _ h => h, fun _ _ h => h, fun _ _ _ h => h, fun _ e => nomatch e⟩
def sOwn {α : Type} (R : Rp α) : SR (List α) where
  r := fun p H0 F H o xs => ∃ D vs, o = some (.ref D) ∧ H D = some (.lst vs) ∧ All2 (R.r F) vs xs ∧ F D = none ∧ H0 D = none ∧ p ≠ some D
  own := fun o => match o with
    | some (.ref D) => some D
    | _ => none
  step := fun x ⟨D, vs, e, h, t, n1, n2, n3⟩ => ⟨D, vs, e, x.hp D _ n3 h, t.imp fun _ _ g => R.st x.fz g, (x.old D (some_ne h)).trans n1, n2, n3⟩
  upd := fun c _ ⟨D, vs, e, h, t, n1, n2, n3⟩ => ⟨D, vs, e, by rw [upd_ne (fun z => c (by rw [e, z]))]; exact h, t, n1, n2, n3⟩
  fz := fun s c _ ⟨D, vs, e, h, t, n1, n2, n3⟩ => ⟨D, vs, e, h, t.imp fun _ _ g => R.st s g, by rw [upd_ne (fun z => c (by rw [e, z]))]; exact n1, n2, n3⟩
  has := fun ⟨D, vs, e, h, t, n1, n2, n3⟩ c => by
    subst e
    cases c
    exact ⟨by rw [h]; simp, n1, n2, n3⟩
structure EV (Γ : Type) where
  r : Option Addr → Hp → Hp → Hp → L2.St → Γ → Prop
  owns : L2.St → List Addr
  step : ∀ {p : Option Addr} {H0 F H F' H' : Hp} {σ : L2.St} {ρ : Γ}, ExtX p F H F' H' → r p H0 F H σ ρ → r p H0 F' H' σ ρ
  upd : ∀ {p : Option Addr} {H0 F H : Hp} {σ : L2.St} {ρ : Γ} {D : Addr} {x : HO}, D ∉ owns σ → NwL H D → r p H0 F H σ ρ → r p H0 F (L2.upd H D x) σ ρ
  fz : ∀ {p : Option Addr} {H0 F H : Hp} {σ : L2.St} {ρ : Γ} {D : Addr} {x : HO}, Same F (L2.upd F D x) → D ∉ owns σ → NwL H D → r p H0 F H σ ρ → r p H0 (L2.upd F D x) H σ ρ
  has : ∀ {p : Option Addr} {H0 F H : Hp} {σ : L2.St} {ρ : Γ} {D : Addr}, r p H0 F H σ ρ → D ∈ owns σ → H D ≠ none ∧ F D = none ∧ H0 D = none ∧ p ≠ some D
def eNil : EV Unit := ⟨fun _ _ _ _ σ _ => σ = [], fun _ => [], fun _ h => h, fun _ _ h => h, fun _ _ _ h => h, fun _ h => nomatch h⟩
def eCons {α Γ : Type} (S : SR α) (E : EV Γ) : EV (α × Γ) where
  r := fun p H0 F H σ ρ => ∃ o τ, σ = o :: τ ∧ S.r p H0 F H o ρ.1 ∧ E.r p H0 F H τ ρ.2
  owns := fun σ => match σ with
    | [] => []
    | o :: τ => (S.own o).toList ++ E.owns τ
  step := fun x ⟨o, τ, e, h, t⟩ => ⟨o, τ, e, S.step x h, E.step x t⟩
  upd := fun c w ⟨o, τ, e, h, t⟩ => ⟨o, τ, e, S.upd (fun z => c (by rw [e]; exact List.mem_append_left _ (by rw [z]; simp))) w h, E.upd (fun z => c (by rw [e]; exact List.mem_append_right _ z)) w t⟩
  fz := fun s c w ⟨o, τ, e, h, t⟩ => ⟨o, τ, e, S.fz s (fun z => c (by rw [e]; exact List.mem_append_left _ (by rw [z]; simp))) w h, E.fz s (fun z => c (by rw [e]; exact List.mem_append_right _ z)) w t⟩
  has := fun ⟨o, τ, e, h, t⟩ c => by
    subst e
    rcases List.mem_append.mp c with c | c
    · exact S.has h (by cases q : S.own o with
        | none => rw [q] at c; simp at c
        | some x => rw [q] at c; simp at c; rw [c])
    · exact E.has t c
structure EI {Γ : Type} (k : Cn) (E : EV Γ) (F H : Hp) (σ : L2.St) (ρ : Γ) : Prop where
  r : E.r k.p k.H0 F H σ ρ
  nd : (E.owns σ).Nodup
theorem EI.step {Γ : Type} {k : Cn} {E : EV Γ} {F H F' H' : Hp} {σ : L2.St} {ρ : Γ} (e : EI k E F H σ ρ) (x : ExtX k.p F H F' H') : EI k E F' H' σ ρ := ⟨E.step x e.r, e.nd⟩
structure GetS {Γ α : Type} (E : EV Γ) (i : Nat) (S : SR α) (g : Γ → α) : Prop where
  get : ∀ {p : Option Addr} {H0 F H : Hp} {σ : L2.St} {ρ : Γ}, E.r p H0 F H σ ρ → ∃ o, σ[i]? = some o ∧ S.r p H0 F H o (g ρ)
theorem get0 {Γ α : Type} {S : SR α} {E : EV Γ} : GetS (eCons S E) 0 S (·.1) := ⟨fun ⟨o, τ, e, h, _⟩ => ⟨o, by rw [e]; rfl, h⟩⟩
theorem getS {Γ α β : Type} {S : SR α} {T : SR β} {E : EV Γ} {i : Nat} {g : Γ → α} (h : GetS E i S g) : GetS (eCons T E) (i + 1) S (fun ρ => g ρ.2) :=
  ⟨fun ⟨o, τ, e, _, t⟩ => by obtain ⟨o', q, r⟩ := h.get t; exact ⟨o', by rw [e]; simpa using q, r⟩⟩
structure PutS {Γ Γ' β : Type} (E : EV Γ) (i : Nat) (S' : SR β) (E' : EV Γ') (put : Γ → β → Γ') : Prop where
  put : ∀ {p : Option Addr} {H0 F H : Hp} {σ : L2.St} {ρ : Γ} {o : Option V} {b : β}, E.r p H0 F H σ ρ → S'.r p H0 F H o b → E'.r p H0 F H (σ.set i o) (put ρ b)
  sub : ∀ {σ : L2.St} {o : Option V} {x : Addr}, x ∈ E'.owns (σ.set i o) → x ∈ E.owns σ ∨ S'.own o = some x
  nd : ∀ {σ : L2.St} {o : Option V}, (E.owns σ).Nodup → (∀ D, S'.own o = some D → D ∉ E.owns σ) → (E'.owns (σ.set i o)).Nodup
theorem put0 {Γ α β : Type} {S : SR α} {S' : SR β} {E : EV Γ} : PutS (eCons S E) 0 S' (eCons S' E) (fun ρ b => (b, ρ.2)) where
  put := fun ⟨o, τ, e, _, t⟩ h => ⟨_, τ, by rw [e]; rfl, h, t⟩
  sub := fun {σ o x} h => by
    cases σ with
    | nil => exact .inl h
    | cons y τ =>
      rcases List.mem_append.mp h with h | h
      · exact .inr (by cases q : S'.own o with
          | none => rw [q] at h; simp at h
          | some x => rw [q] at h; simp at h; rw [h])
      · exact .inl (List.mem_append_right _ h)
  nd := fun {σ o} n a => by
    cases σ with
    | nil => exact n
    | cons y τ =>
      have n2 : (E.owns τ).Nodup := (List.nodup_append.mp n).2.1
      show ((S'.own o).toList ++ E.owns τ).Nodup
      cases q : S'.own o with
      | none => simpa using n2
      | some x => simpa using ⟨fun z => a x q (List.mem_append_right _ z), n2⟩
theorem putS {Γ Γ' α β : Type} {S' : SR β} {T : SR α} {E : EV Γ} {E' : EV Γ'} {i : Nat} {put : Γ → β → Γ'} (h : PutS E i S' E' put) : PutS (eCons T E) (i + 1) S' (eCons T E') (fun ρ b => (ρ.1, put ρ.2 b)) where
  put := fun ⟨o, τ, e, q, t⟩ s => ⟨o, τ.set i _, by rw [e]; rfl, q, h.put t s⟩
  sub := fun {σ o x} z => by
    cases σ with
    | nil => exact .inl z
    | cons y τ =>
      rcases List.mem_append.mp z with z | z
      · exact .inl (List.mem_append_left _ z)
      · exact (h.sub z).imp (List.mem_append_right _) id
  nd := fun {σ o} n a => by
    cases σ with
    | nil => exact n
    | cons y τ =>
      obtain ⟨n1, n2, n3⟩ := List.nodup_append.mp n
      refine List.nodup_append.mpr ⟨n1, h.nd n2 fun D e z => a D e (List.mem_append_right _ z), fun x hx y' hy z => ?_⟩
      subst z
      rcases h.sub hy with hy | hy
      · exact n3 x hx x hy rfl
      · exact a x hy (List.mem_append_left _ hx)
structure ModS {Γ α : Type} (E : EV Γ) (i : Nat) (R : Rp α) (g : Γ → List α) (put : Γ → List α → Γ) : Prop where
  get : ∀ {p : Option Addr} {H0 F H : Hp} {σ : L2.St} {ρ : Γ}, E.r p H0 F H σ ρ → ∃ D vs, σ[i]? = some (some (.ref D)) ∧ H D = some (.lst vs) ∧ All2 (R.r F) vs (g ρ) ∧ D ∈ E.owns σ
  mod : ∀ {p : Option Addr} {H0 F H : Hp} {σ : L2.St} {ρ : Γ} {D : Addr} {vs : List V} {xs : List α}, E.r p H0 F H σ ρ → (E.owns σ).Nodup → σ[i]? = some (some (.ref D)) → All2 (R.r F) vs xs → E.r p H0 F (upd H D (.lst vs)) σ (put ρ xs)
theorem mod0 {Γ α : Type} {R : Rp α} {E : EV Γ} : ModS (eCons (sOwn R) E) 0 R (·.1) (fun ρ xs => (xs, ρ.2)) where
  get := fun ⟨o, τ, e, ⟨D, vs, e2, h, t, _⟩, _⟩ => ⟨D, vs, by rw [e, e2]; rfl, h, t, by rw [e, e2]; exact List.mem_cons_self⟩
  mod := fun {p H0 F H σ ρ D vs xs} ⟨o, τ, e, ⟨D', vs', e2, h, t, n1, n2, n3⟩, q⟩ n hi a => by
    subst e e2
    obtain rfl : D' = D := by
      have hi' : some (some (V.ref D')) = some (some (V.ref D)) := hi
      cases hi'; rfl
    have n2' : D' ∉ E.owns τ := (List.nodup_cons.mp n).1
    exact ⟨_, τ, rfl, ⟨D', vs, rfl, upd_same, a, n1, n2, n3⟩, E.upd n2' (.lst h) q⟩
theorem modS {Γ α β : Type} {R : Rp α} {T : SR β} {E : EV Γ} {i : Nat} {g : Γ → List α} {put : Γ → List α → Γ} (m : ModS E i R g put) : ModS (eCons T E) (i + 1) R (fun ρ => g ρ.2) (fun ρ xs => (ρ.1, put ρ.2 xs)) where
  get := fun ⟨o, τ, e, _, q⟩ => by
    obtain ⟨D, vs, h1, h2, h3, h4⟩ := m.get q
    exact ⟨D, vs, by rw [e]; simpa using h1, h2, h3, by rw [e]; exact List.mem_append_right _ h4⟩
  mod := fun {p H0 F H σ ρ D vs xs} ⟨o, τ, e, t, q⟩ n hi a => by
    subst e
    obtain ⟨n1, n2, n3⟩ := List.nodup_append.mp n
    have hi' : τ[i]? = some (some (.ref D)) := by simpa using hi
    obtain ⟨D', vs', h1, h2, h3, h4⟩ := m.get q
    rw [hi'] at h1
    obtain rfl : D = D' := by cases h1; rfl
    refine ⟨o, τ, rfl, T.upd (fun z => n3 D (by rw [z]; simp) D h4 rfl) (.lst h2) t, m.mod q n2 hi' a⟩
structure Md where
  Z : Hp → Er → Value → Option Addr → Prop
  XE : XK
def md0 : Md := ⟨fun _ _ _ _ => True, fun _ _ _ => False⟩
def VP {α : Type} (k : Cn) (F H : Hp) (R : Rp α) (Q : VK) : α → Nat → Prop := fun a c' => ∀ v F' H', ExtX k.p F H F' H' → Wo k F' H' c' → R.r F' v a → Q v H'
def VN {α : Type} (k : Cn) (F H : Hp) (R : Rp α) (Q : VK) : List α → Nat → Prop := fun xs c' => ∀ D vs F' H', ExtX k.p F H F' H' → Wo k F' H' c' → H D = none → k.H0 D = none → H' D = some (.lst vs) → F' D = none → All2 (R.r F') vs xs → Q (.ref D) H'
def XP (μ : Md) (k : Cn) : Er → Prop := fun e => ∀ cls d F' H', ExtX k.p k.F0 k.H0 F' H' → μ.Z F' e cls d → μ.XE cls d H'
def AP {α : Type} (k : Cn) (F H : Hp) (S : RA α) (Q : List V → Hp → Prop) : α → Nat → Prop := fun a c' => ∀ vs F' H', ExtX k.p F H F' H' → Wo k F' H' c' → S.r F' vs a → Q vs H'
def BP (k : Cn) (F H : Hp) (Q : Bool → Hp → Prop) : Bool → Nat → Prop := fun b c' => ∀ F' H', ExtX k.p F H F' H' → Wo k F' H' c' → Q b H'
def Walks {α : Type} (J : It) (F1 : Hp) (R : Rp α) (xs : List α) : Prop := ∀ (i : Nat) (F' H' : Hp), Same F1 F' → Same F' H' →
  (∀ a, xs[i]? = some a → J.go i H' ∧ ∀ x H'', J.yld i H' x H'' → ∃ F'', ExtX none F' H' F'' H'' ∧ R.r F'' x a) ∧ (xs.length ≤ i → J.stop i H')
def IP {α : Type} (k : Cn) (F H : Hp) (R : Rp α) (W : It → Hp → Prop) : List α → Nat → Prop := fun xs c' => ∀ J F' H', ExtX k.p F H F' H' → Wo k F' H' c' → Walks J F' R xs → W J H'
section
variable {Γ : Type} {α β γ : Type} (μ : Md)
def SE (E : EV Γ) (R : Rp α) (te : TE) (m : Γ → M α) : Prop := ∀ (k : Cn) (F H : Hp) (σ : L2.St) (ρ : Γ) (c : Nat) (Q : VK), Wo k F H c → EI k E F H σ ρ → (m ρ).wp c (VP k F H R Q) (XP μ k) → te σ H Q
def SN (E : EV Γ) (R : Rp α) (te : TE) (m : Γ → M (List α)) : Prop := ∀ (k : Cn) (F H : Hp) (σ : L2.St) (ρ : Γ) (c : Nat) (Q : VK), Wo k F H c → EI k E F H σ ρ → (m ρ).wp c (VN k F H R Q) (XP μ k) → te σ H Q
def ST (E : EV Γ) (tt : TT) (m : Γ → M Bool) : Prop := ∀ (k : Cn) (F H : Hp) (σ : L2.St) (ρ : Γ) (c : Nat) (Q : Bool → Hp → Prop), Wo k F H c → EI k E F H σ ρ → (m ρ).wp c (BP k F H Q) (XP μ k) → tt σ H Q
def SA (E : EV Γ) (S : RA α) (ta : TA) (m : Γ → M α) : Prop := ∀ (k : Cn) (F H : Hp) (σ : L2.St) (ρ : Γ) (c : Nat) (Q : List V → Hp → Prop), Wo k F H c → EI k E F H σ ρ → (m ρ).wp c (AP k F H S Q) (XP μ k) → ta σ H Q
def SI (E : EV Γ) (R : Rp α) (wi : TI) (m : Γ → M (List α)) : Prop := ∀ (k : Cn) (F H : Hp) (σ : L2.St) (ρ : Γ) (c : Nat) (W : It → Hp → Prop), Wo k F H c → EI k E F H σ ρ → (m ρ).wp c (IP k F H R W) (XP μ k) → wi σ H W
def OpS (r : R2) (Ra : Rp α) (Rb : Rp β) (R : Rp γ) (mf : α → β → M γ) : Prop := ∀ (k : Cn) (F H : Hp) (c : Nat) (x y : V) (a : α) (b : β) (Q : VK), Wo k F H c → Ra.r F x a → Rb.r F y b → (mf a b).wp c (VP k F H R Q) (XP μ k) → r x y H Q
def OpN (r : R2) (Ra : Rp α) (Rb : Rp β) (R : Rp γ) (mf : α → β → M (List γ)) : Prop := ∀ (k : Cn) (F H : Hp) (c : Nat) (x y : V) (a : α) (b : β) (Q : VK), Wo k F H c → Ra.r F x a → Rb.r F y b → (mf a b).wp c (VN k F H R Q) (XP μ k) → r x y H Q
def UnS (r : V → Hp → VK → Prop) (Ra : Rp α) (R : Rp γ) (mf : α → M γ) : Prop := ∀ (k : Cn) (F H : Hp) (c : Nat) (x : V) (a : α) (Q : VK), Wo k F H c → Ra.r F x a → (mf a).wp c (VP k F H R Q) (XP μ k) → r x H Q
def CaS (r : List V → Hp → VK → Prop) (S : RA α) (R : Rp γ) (mf : α → M γ) : Prop := ∀ (k : Cn) (F H : Hp) (c : Nat) (vs : List V) (a : α) (Q : VK), Wo k F H c → S.r F vs a → (mf a).wp c (VP k F H R Q) (XP μ k) → r vs H Q
def CaN (r : List V → Hp → VK → Prop) (S : RA α) (R : Rp γ) (mf : α → M (List γ)) : Prop := ∀ (k : Cn) (F H : Hp) (c : Nat) (vs : List V) (a : α) (Q : VK), Wo k F H c → S.r F vs a → (mf a).wp c (VN k F H R Q) (XP μ k) → r vs H Q
end
def rLs {α : Type} (R : Rp α) : Rp (List α) :=
  ⟨fun F v xs => ∃ p vs, v = .ref p ∧ F p = some (.lst vs) ∧ All2 (R.r F) vs xs, fun s ⟨p, vs, e, h, t⟩ => ⟨p, vs, e, s _ _ h, t.imp fun _ _ g => R.st s g⟩⟩
section
variable {Γ Γ' : Type} {α β γ δ : Type} {μ : Md} {E : EV Γ} {Ra : Rp α} {Rb : Rp β} {R : Rp γ} {Rd : Rp δ}
theorem VP.ext {k : Cn} {F H F1 H1 : Hp} {Q : VK} {a : α} {c : Nat} (x : ExtX k.p F H F1 H1) (h : VP k F H Ra Q a c) : VP k F1 H1 Ra Q a c := fun v F' H' y w r => h v F' H' (x.trans y) w r
theorem VN.ext {k : Cn} {F H F1 H1 : Hp} {Q : VK} {a : List α} {c : Nat} (x : ExtX k.p F H F1 H1) (h : VN k F H Ra Q a c) : VN k F1 H1 Ra Q a c := fun D vs F' H' y w n n0 r f t => h D vs F' H' (x.trans y) w (by
  cases q : H D with
  | none => rfl
  | some o => exact absurd n (x.on D (by rw [q]; simp))) n0 r f t
theorem wp_imp {m : M α} {c : Nat} {P Q : α → Nat → Prop} {X : Er → Prop} (h : m.wp c P X) (f : ∀ a d, P a d → Q a d) : m.wp c Q X := m.mono c f (fun _ z => z) h
theorem Wo.h0 {k : Cn} {F H : Hp} {c : Nat} (w : Wo k F H c) {D : Addr} (n : H D = none) : k.H0 D = none := by
  cases q : k.H0 D with
  | none => rfl
  | some o => exact absurd n (w.ext.on D (by rw [q]; simp))
theorem Wo.np {k : Cn} {F H : Hp} {c : Nat} (w : Wo k F H c) {D : Addr} (n : k.H0 D = none) : k.p ≠ some D := fun e => (w.dice D e).2.1 n
theorem Wo.fz {k : Cn} {F H : Hp} {c : Nat} (w : Wo k F H c) {D : Addr} {o : HO} (n : k.H0 D = none) (f : F D = none) (h : H D = some o) : Same F (upd F D o) ∧ Wo k (upd F D o) H c := by
  have s : Same F (upd F D o) := same_upd f
  have sub : Same (upd F D o) H := fun b u e => by
    by_cases z : b = D
    · subst z; rw [upd_same] at e; rw [h]; exact e
    · rw [upd_ne z] at e; exact w.sub _ _ e
  have h0 : ∀ b, k.H0 b ≠ none → b ≠ D := fun b nb z => by subst z; exact nb n
  exact ⟨s, sub, ⟨w.ext.fz.trans s, sub, w.ext.hpn, fun b hb => by rw [upd_ne (h0 b hb)]; exact w.ext.old b hb, w.ext.on, fun ta p hp => (w.ext.tb ta p hp).go ((upd_ne ((ta p hp).ne n)).trans (w.ext.tb ta p hp).1) (fun _ z => z) s⟩, fun a e => by
    obtain ⟨q1, q2, q3⟩ := w.dice a e
    exact ⟨by rw [upd_ne (h0 a q2)]; exact q1, q2, q3⟩⟩
theorem VN.of {k : Cn} {F H : Hp} {Q : VK} {xs : List α} {c : Nat} (h : VP k F H (rLs Ra) Q xs c) : VN k F H Ra Q xs c := fun D vs F' H' x w n n0 r f t => by
  obtain ⟨s, w2⟩ := w.fz n0 f r
  exact h (.ref D) _ H' ⟨x.fz.trans s, w2.sub, x.hpn, fun b hb => by
    rw [upd_ne (fun z => hb (by rw [z]; exact n))]; exact x.old b hb, x.on, fun ta p hp => (x.tb ta p hp).go ((upd_ne ((ta p hp).ne n)).trans (x.tb ta p hp).1) (fun _ z => z) s⟩ w2 ⟨D, vs, rfl, upd_same, t.imp fun _ _ g => Ra.st s g⟩
theorem SN.se {te : TE} {m : Γ → M (List α)} (h : SN μ E Ra te m) : SE μ E (rLs Ra) te m := fun k F H σ ρ c Q w e q => h k F H σ ρ c Q w e (wp_imp q fun _ _ z => VN.of z)
theorem OpN.os {r : R2} {mf : α → β → M (List γ)} (h : OpN μ r Ra Rb R mf) : OpS μ r Ra Rb (rLs R) mf := fun k F H c x y a b Q w p q z => h k F H c x y a b Q w p q (wp_imp z fun _ _ z => VN.of z)
theorem CaN.cs {r : List V → Hp → VK → Prop} {S : RA α} {mf : α → M (List γ)} (h : CaN μ r S R mf) : CaS μ r S (rLs R) mf := fun k F H c x a Q w p z => h k F H c x a Q w p (wp_imp z fun _ _ z => VN.of z)
theorem e_var {i : Nat} {g : Γ → α} (h : GetS E i (sVal Ra) g) : SE μ E Ra (tVar i) fun ρ => .ret (g ρ) := fun k F H σ ρ c Q w e q => by
  obtain ⟨o, h1, v, rfl, r⟩ := h.get e.r
  exact ⟨v, h1, q v F H (ExtX.refl w.sub) w r⟩
theorem e_c {v : V} {a : α} (h : ∀ F, Ra.r F v a) : SE μ E Ra (tC v) fun _ => .ret a := fun k F H σ ρ c Q w e q => q v F H (ExtX.refl w.sub) w (h F)
theorem e_int {i : Int} : SE μ E rInt (tC (.int i)) fun _ => .ret i := e_c fun _ => rfl
theorem e_bl {b : Bool} : SE μ E rBl (tC (.bl b)) fun _ => .ret b := e_c fun _ => rfl
theorem e_str {x : Str} : SE μ E rStr (tC (.str x)) fun _ => .ret x := e_c fun _ => rfl
theorem e_non : SE μ E rNon (tC .non) fun _ => .ret () := e_c fun _ => rfl
theorem e_op {r : R2} {ta tb : TE} {ma : Γ → M α} {mb : Γ → M β} {mf : α → β → M γ} (ho : OpS μ r Ra Rb R mf) (ha : SE μ E Ra ta ma) (hb : SE μ E Rb tb mb) :
    SE μ E R (tOp r ta tb) fun ρ => (ma ρ).bind fun a => (mb ρ).bind fun b => mf a b := fun k F H σ ρ c Q w e h =>
  ha k F H σ ρ c _ w e (wp_imp h fun a c1 q v F1 H1 x1 w1 r1 => hb k F1 H1 σ ρ c1 _ w1 (e.step x1) (wp_imp q fun b c2 q v2 F2 H2 x2 w2 r2 =>
    ho k F2 H2 c2 v v2 a b Q w2 (Ra.st x2.fz r1) r2 (wp_imp q fun _ _ z => VP.ext (x1.trans x2) z)))
theorem n_op {r : R2} {ta tb : TE} {ma : Γ → M α} {mb : Γ → M β} {mf : α → β → M (List γ)} (ho : OpN μ r Ra Rb R mf) (ha : SE μ E Ra ta ma) (hb : SE μ E Rb tb mb) :
    SN μ E R (tOp r ta tb) fun ρ => (ma ρ).bind fun a => (mb ρ).bind fun b => mf a b := fun k F H σ ρ c Q w e h =>
  ha k F H σ ρ c _ w e (wp_imp h fun a c1 q v F1 H1 x1 w1 r1 => hb k F1 H1 σ ρ c1 _ w1 (e.step x1) (wp_imp q fun b c2 q v2 F2 H2 x2 w2 r2 =>
    ho k F2 H2 c2 v v2 a b Q w2 (Ra.st x2.fz r1) r2 (wp_imp q fun _ _ z => VN.ext (x1.trans x2) z)))
theorem e_un {r : V → Hp → VK → Prop} {ta : TE} {ma : Γ → M α} {mf : α → M γ} (ho : UnS μ r Ra R mf) (ha : SE μ E Ra ta ma) :
    SE μ E R (tUn r ta) fun ρ => (ma ρ).bind mf := fun k F H σ ρ c Q w e h =>
  ha k F H σ ρ c _ w e (wp_imp h fun a c1 q v F1 H1 x1 w1 r1 => ho k F1 H1 c1 v a Q w1 r1 (wp_imp q fun _ _ z => VP.ext x1 z))
theorem o_ii {g : Int → Int → V} {f : Int → Int → Int} (h : ∀ i j, g i j = .int (f i j)) : OpS μ (rI0 g) rInt rInt rInt fun i j => .ret (f i j) := fun k F H c x y i j Q w hx hy q => ⟨i, j, hx, hy, q _ F H (ExtX.refl w.sub) w (h i j)⟩
theorem o_ib {g : Int → Int → V} {f : Int → Int → Bool} (h : ∀ i j, g i j = .bl (f i j)) : OpS μ (rI0 g) rInt rInt rBl fun i j => .ret (f i j) := fun k F H c x y i j Q w hx hy q => ⟨i, j, hx, hy, q _ F H (ExtX.refl w.sub) w (h i j)⟩
theorem o_iiC {C : Int → Int → Prop} {g : Int → Int → V} {f : Int → Int → Int} (h : ∀ i j, g i j = .int (f i j)) : OpS μ (rI C g) rInt rInt rInt fun i j => .need (C i j) (.ret (f i j)) := fun k F H c x y i j Q w hx hy q => ⟨i, j, hx, hy, q.1, q.2 _ F H (ExtX.refl w.sub) w (h i j)⟩
theorem u_ii {g : Int → V} {f : Int → Int} (h : ∀ i, g i = .int (f i)) : UnS μ (rU g) rInt rInt fun i => .ret (f i) := fun k F H c x i Q w hx q => ⟨i, hx, q _ F H (ExtX.refl w.sub) w (h i)⟩
structure ScR (R : Rp α) [DecidableEq α] : Prop where
  scal : ∀ {F F' : Hp} {x y : V} {a b : α}, R.r F x a → R.r F' y b → L2.scal x y = true ∧ decide (x = y) = decide (a = b)
theorem sc_int : ScR rInt := ⟨fun {_ _ _ _ a b} h k => by subst h k; exact ⟨rfl, by by_cases c : a = b; (· rw [c]; simp); (· rw [decide_eq_false c, decide_eq_false fun z => c (V.int.inj z)])⟩⟩
theorem sc_str : ScR rStr := ⟨fun {_ _ _ _ a b} h k => by subst h k; exact ⟨rfl, by by_cases c : a = b; (· rw [c]; simp); (· rw [decide_eq_false c, decide_eq_false fun z => c (V.str.inj z)])⟩⟩
theorem o_eq [DecidableEq α] (s : ScR Ra) : OpS μ rEq Ra Ra rBl fun a b => .ret (decide (a = b)) := fun k F H c x y a b Q w hx hy q => by
  obtain ⟨h1, h2⟩ := s.scal hx hy
  exact ⟨h1, q _ F H (ExtX.refl w.sub) w (by rw [h2]; rfl)⟩
theorem o_ne [DecidableEq α] (s : ScR Ra) : OpS μ rNe Ra Ra rBl fun a b => .ret (!decide (a = b)) := fun k F H c x y a b Q w hx hy q => by
  obtain ⟨h1, h2⟩ := s.scal hx hy
  exact ⟨h1, q _ F H (ExtX.refl w.sub) w (by rw [h2]; rfl)⟩
structure DpR (K : PySem.W.Frag) (R : Rp α) (d : α → PyData) (n : Nat) : Prop where
  dp : ∀ {F : Hp} {v : V} {a : α}, R.r F v a → Dp K F v (d a)
  deep : ∀ a, (d a).depth ≤ n
theorem shaped_of {d : PyData} {n : Nat} (h : d.depth ≤ n) (hn : n ≤ 64) (l : d.canLay0 = true) : SeqAt.shaped d = true := by
  unfold SeqAt.shaped
  rw [l, decide_eq_true (Nat.le_trans h hn)]; rfl
mutual
theorem dp_same {K : PySem.W.Frag} {F H : Hp} (s : Same F H) : ∀ (d : PyData) (v : V), Dp K F v d → Dp K H v d
  | _, _, .non => .non
  | _, _, .bl b => .bl b
  | _, _, .int i => .int i
  | _, _, .str x => .str x
  | _, _, .lst h t => .lst (s.seq h) (dps_same s _ _ t)
  | _, _, .tup h t => .tup (same_seqT s h) (dps_same s _ _ t)
theorem dps_same {K : PySem.W.Frag} {F H : Hp} (s : Same F H) : ∀ (ds : List PyData) (vs : List V), DpAll K F vs ds → DpAll K H vs ds
  | _, _, .nil => .nil
  | _, _, .cons h t => .cons (dp_same s _ _ h) (dps_same s _ _ t)
end
theorem Dp.same {K : PySem.W.Frag} {F H : Hp} {v : V} {d : PyData} (s : Same F H) (h : Dp K F v d) : Dp K H v d := dp_same s d v h
theorem o_eqD {K : PySem.W.Frag} {da : α → PyData} {db : β → PyData} {i j : Nat} (hA : DpR K Ra da i) (hB : DpR K Rb db j) (hi : i ≤ 64 := by decide) (hj : j ≤ 64 := by decide) : OpS μ (rEqD K) Ra Rb rBl fun a b => .need ((da a).canLay0 = true ∧ (db b).canLay0 = true) (.ret (PyData.eqv (da a) (db b))) := fun k F H c x y a b Q w hx hy q =>
  ⟨_, _, Dp.same w.sub (hA.dp hx), Dp.same w.sub (hB.dp hy), shaped_of (hA.deep a) hi q.1.1, shaped_of (hB.deep b) hj q.1.2, q.2 _ F H (ExtX.refl w.sub) w rfl⟩
theorem t_of {te : TE} {m : Γ → M Bool} (h : SE μ E rBl te m) : ST μ E (tTest te) m := fun k F H σ ρ c Q w e q => h k F H σ ρ c _ w e (wp_imp q fun b _ z v F' H' x w' r => ⟨b, r, z F' H' x w'⟩)
theorem t_b {te : TE} {m : Γ → M Bool} (h : SE μ E rBl te m) : ST μ E (tB te) m := fun k F H σ ρ c Q w e q => h k F H σ ρ c _ w e (wp_imp q fun b _ z v F' H' x w' r => ⟨b, r, z F' H' x w'⟩)
theorem BP.ext {k : Cn} {F H F1 H1 : Hp} {Q : Bool → Hp → Prop} {b : Bool} {c : Nat} (x : ExtX k.p F H F1 H1) (h : BP k F H Q b c) : BP k F1 H1 Q b c := fun F' H' y w => h F' H' (x.trans y) w
theorem t_not {tt : TT} {m : Γ → M Bool} (h : ST μ E tt m) : ST μ E (tNot tt) fun ρ => (m ρ).bind fun b => .ret (!b) := fun k F H σ ρ c Q w e q => h k F H σ ρ c _ w e (wp_imp q fun _ _ z F' H' x w' => z F' H' x w')
theorem t_or {tt tu : TT} {m n : Γ → M Bool} (h : ST μ E tt m) (h' : ST μ E tu n) : ST μ E (tOr tt tu) fun ρ => (m ρ).bind fun b => .ifb b (.ret true) (n ρ) := fun k F H σ ρ c Q w e q => h k F H σ ρ c _ w e (wp_imp q fun b c1 z F' H' x w' => by
  cases b with
  | false => exact h' k F' H' σ ρ c1 Q w' (e.step x) (wp_imp z fun _ _ z => BP.ext x z)
  | true => exact z F' H' x w')
theorem e_if {tt : TT} {ta tb : TE} {mt : Γ → M Bool} {ma mb : Γ → M α} (ht : ST μ E tt mt) (ha : SE μ E Ra ta ma) (hb : SE μ E Ra tb mb) : SE μ E Ra (tIf tt ta tb) fun ρ => (mt ρ).bind fun b => .ifb b (ma ρ) (mb ρ) := fun k F H σ ρ c Q w e q =>
  ht k F H σ ρ c _ w e (wp_imp q fun b c1 z F' H' x w' => by
    cases b with
    | true => exact ha k F' H' σ ρ c1 Q w' (e.step x) (wp_imp z fun _ _ z => VP.ext x z)
    | false => exact hb k F' H' σ ρ c1 Q w' (e.step x) (wp_imp z fun _ _ z => VP.ext x z))
theorem e_and {ta tb : TE} {m n : Γ → M Bool} (h : SE μ E rBl ta m) (h' : SE μ E rBl tb n) : SE μ E rBl (tAndV ta tb) fun ρ => (m ρ).bind fun b => .ifb b (n ρ) (.ret false) := fun k F H σ ρ c Q w e q => h k F H σ ρ c _ w e (wp_imp q fun b c1 z v F' H' x w' r => by
  refine ⟨b, r, ?_⟩
  cases b with
  | true => exact h' k F' H' σ ρ c1 Q w' (e.step x) (wp_imp z fun _ _ z => VP.ext x z)
  | false => exact z _ F' H' x w' rfl)
theorem e_not {ta : TE} {m : Γ → M Bool} (h : SE μ E rBl ta m) : SE μ E rBl (tNotV ta) fun ρ => (m ρ).bind fun b => .ret (!b) := fun k F H σ ρ c Q w e q => h k F H σ ρ c _ w e (wp_imp q fun b c1 z v F' H' x w' r => ⟨b, r, z _ F' H' x w' rfl⟩)
theorem e_chain {r r' : R2} {ta tb tc : TE} {ma : Γ → M α} {mb : Γ → M β} {mc : Γ → M γ} {f : α → β → M Bool} {f' : β → γ → M Bool} (ho : OpS μ r Ra Rb rBl f) (ho' : OpS μ r' Rb R rBl f') (ha : SE μ E Ra ta ma) (hb : SE μ E Rb tb mb) (hc : SE μ E R tc mc) :
    SE μ E rBl (tChain r r' ta tb tc) fun ρ => (ma ρ).bind fun a => (mb ρ).bind fun b => (f a b).bind fun k => .ifb k ((mc ρ).bind fun d => f' b d) (.ret false) := fun k F H σ ρ c Q w e h =>
  ha k F H σ ρ c _ w e (wp_imp h fun a c1 q v F1 H1 x1 w1 r1 => hb k F1 H1 σ ρ c1 _ w1 (e.step x1) (wp_imp q fun b c2 q v2 F2 H2 x2 w2 r2 =>
    ho k F2 H2 c2 v v2 a b _ w2 (Ra.st x2.fz r1) r2 (wp_imp q fun t c3 q v3 F3 H3 x3 w3 r3 => by
      refine ⟨t, r3, ?_⟩
      have x13 := (x1.trans x2).trans x3
      cases t with
      | true => exact hc k F3 H3 σ ρ c3 _ w3 (e.step x13) (wp_imp q fun d c4 q v4 F4 H4 x4 w4 r4 => ho' k F4 H4 c4 v2 v4 b d Q w4 (Rb.st (x3.fz.trans x4.fz) r2) r4 (wp_imp q fun _ _ z => VP.ext (x13.trans x4) z))
      | false => exact q _ F3 H3 x13 w3 rfl)))
theorem AP.ext {S : RA α} {k : Cn} {F H F1 H1 : Hp} {Q : List V → Hp → Prop} {b : α} {c : Nat} (x : ExtX k.p F H F1 H1) (h : AP k F H S Q b c) : AP k F1 H1 S Q b c := fun vs F' H' y w r => h vs F' H' (x.trans y) w r
theorem a_nil : SA μ E aNil tNil fun _ => .ret () := fun k F H σ ρ c Q w e q => q [] F H (ExtX.refl w.sub) w rfl
theorem a_cons {S : RA β} {ta : TE} {tb : TA} {ma : Γ → M α} {mb : Γ → M β} (ha : SE μ E Ra ta ma) (hb : SA μ E S tb mb) : SA μ E (aCons Ra S) (tCons ta tb) fun ρ => (ma ρ).bind fun a => (mb ρ).bind fun b => .ret (a, b) := fun k F H σ ρ c Q w e h =>
  ha k F H σ ρ c _ w e (wp_imp h fun a c1 q v F1 H1 x1 w1 r1 => hb k F1 H1 σ ρ c1 _ w1 (e.step x1) (wp_imp q fun b c2 q vs F2 H2 x2 w2 r2 => q _ F2 H2 (x1.trans x2) w2 ⟨v, vs, rfl, Ra.st x2.fz r1, r2⟩))
theorem le_n (n : Nat) (h : n ≤ 1000 := by decide) : n ≤ sizeLine := by rw [sizeLine_eq]; omega
theorem e_tup {K : PySem.W.Frag} {S : RA α} {ta : TA} {ma : Γ → M α} (ha : SA μ E S ta ma) (hn : S.n ≤ sizeLine) : SE μ E (rTx K S) (tTup ta) ma := fun k F H σ ρ c Q w e h =>
  ha k F H σ ρ c _ w e (wp_imp h fun a c1 q vs F1 H1 x1 w1 r1 => ⟨by rw [S.len r1]; exact hn, fun p n => by
    have x2 := ExtX.new (p := k.p) w1.sub n (.tup vs)
    exact q _ _ _ (x1.trans x2) (w1.new n _) ⟨p, vs, rfl, .of upd_same, S.st x2.fz r1⟩⟩)
structure HomR (R : Rp α) (S : RA β) (f : β → List α) : Prop where
  all : ∀ {F : Hp} {vs : List V} {b : β}, S.r F vs b → All2 (R.r F) vs (f b)
theorem hom_nil : HomR Ra aNil fun _ => [] := ⟨fun h => by subst h; exact .nil⟩
theorem hom_cons {S : RA β} {f : β → List α} (h : HomR Ra S f) : HomR Ra (aCons Ra S) fun b => b.1 :: f b.2 := ⟨fun ⟨v, ws, e, r, t⟩ => by subst e; exact .cons r (h.all t)⟩
theorem n_lst {S : RA β} {f : β → List α} {ta : TA} {ma : Γ → M β} (ho : HomR Ra S f) (ha : SA μ E S ta ma) (hn : S.n ≤ sizeLine) : SN μ E Ra (tLst ta) fun ρ => (ma ρ).bind fun b => .ret (f b) := fun k F H σ ρ c Q w e h =>
  ha k F H σ ρ c _ w e (wp_imp h fun a c1 q vs F1 H1 x1 w1 r1 => ⟨by rw [S.len r1]; exact hn, fun p n => by
    have x2 := ExtX.own (p := k.p) w1.sub n (.lst vs)
    have nH : H p = none := by
      cases z : H p with
      | none => rfl
      | some o => exact absurd n (x1.on p (by rw [z]; simp))
    exact q p vs _ _ (x1.trans x2) (w1.own n _) nH (w.h0 nH) upd_same (w1.sub.free n) (ho.all r1)⟩)
theorem e_tupH {K : PySem.W.Frag} {S : RA β} {f : β → List α} {ta : TA} {ma : Γ → M β} (ho : HomR Ra S f) (ha : SA μ E S ta ma) (hn : S.n ≤ sizeLine) : SE μ E (rTup K Ra) (tTup ta) fun ρ => (ma ρ).bind fun b => .ret (f b) := fun k F H σ ρ c Q w e h =>
  ha k F H σ ρ c _ w e (wp_imp h fun a c1 q vs F1 H1 x1 w1 r1 => ⟨by rw [S.len r1]; exact hn, fun p n => by
    have x2 := ExtX.new (p := k.p) w1.sub n (.tup vs)
    exact q _ _ _ (x1.trans x2) (w1.new n _) ⟨p, vs, rfl, .of upd_same, (ho.all r1).imp fun _ _ g => Ra.st x2.fz g⟩⟩)
structure RGet (S : RA α) (i : Nat) (R : Rp β) (g : α → β) : Prop where
  get : ∀ {F : Hp} {vs : List V} {a : α}, S.r F vs a → ∃ v, vs[i]? = some v ∧ R.r F v (g a)
theorem e_ca {r : List V → Hp → VK → Prop} {S : RA α} {ta : TA} {ma : Γ → M α} {mf : α → M γ} (hc : CaS μ r S R mf) (ha : SA μ E S ta ma) : SE μ E R (tCB r ta) fun ρ => (ma ρ).bind mf := fun k F H σ ρ c Q w e h =>
  ha k F H σ ρ c _ w e (wp_imp h fun a c1 q vs F1 H1 x1 w1 r1 => hc k F1 H1 c1 vs a Q w1 r1 (wp_imp q fun _ _ z => VP.ext x1 z))
theorem n_ca {r : List V → Hp → VK → Prop} {S : RA α} {ta : TA} {ma : Γ → M α} {mf : α → M (List γ)} (hc : CaN μ r S R mf) (ha : SA μ E S ta ma) : SN μ E R (tCB r ta) fun ρ => (ma ρ).bind mf := fun k F H σ ρ c Q w e h =>
  ha k F H σ ρ c _ w e (wp_imp h fun a c1 q vs F1 H1 x1 w1 r1 => hc k F1 H1 c1 vs a Q w1 r1 (wp_imp q fun _ _ z => VN.ext x1 z))
def spOf (S : RA α) (R : Rp β) (m : α → M β) : Sp := fun vs H Q _ => ∃ F a, Same F H ∧ S.r F vs a ∧
  (m a).wp 0 (fun b _ => ∀ v F' H', ExtX none F H F' H' → R.r F' v b → Q v H') (fun _ => False)
def spOfD (S : RA α) (R : Rp β) (m : α → M β) : Sp := fun vs H Q _ => ∃ F p ws a c, vs = .ref p :: ws ∧ Same F H ∧ F p = none ∧ Dice p H c ∧ S.r F ws a ∧
  (m a).wp c (fun b c' => ∀ v F' H', ExtX (some p) F H F' H' → F' p = none → Dice p H' c' → R.r F' v b → Q v H') (fun _ => False)
theorem XP.no {k : Cn} {F H : Hp} {c : Nat} (w : Wo k F H c) {e : Er} (h : XP md0 k e) : False := h .none none F H w.ext trivial
theorem e_call {S : RA α} {ta : TA} {ma : Γ → M α} {m : α → M γ} (ha : SA md0 E S ta ma) : SE md0 E R (tCall (spOf S R m) [] E0 ta) fun ρ => (ma ρ).bind fun a => (m a).still := fun k F H σ ρ c Q w e h =>
  ha k F H σ ρ c _ w e (wp_imp h fun a c1 q vs F1 H1 x1 w1 r1 => by
    show spOf S R m (vs ++ []) H1 Q E0
    rw [List.append_nil]
    exact ⟨F1, a, w1.sub, r1, (m a).mono 0 (fun b _ z v F' H' x r => z v F' H' (x1.trans (w1.call x).1) (w1.call x).2 r) (fun _ z => XP.no w1 z) q⟩)
theorem Wo.callD {k : Cn} {F H F' H' : Hp} {c c' : Nat} {p : Addr} (w : Wo k F H c) (e : k.p = some p) (x : ExtX (some p) F H F' H') (f : F' p = none) (d : Dice p H' c') : ExtX k.p F H F' H' ∧ Wo k F' H' c' := by
  rw [← e] at x
  refine ⟨x, x.sub, w.ext.trans x, fun a ea => ?_⟩
  obtain rfl : p = a := Option.some.inj (e.symm.trans ea)
  exact ⟨f, (w.dice p e).2.1, d⟩
theorem e_callD {S : RA α} {ta : TA} {ma : Γ → M α} {m : α → M γ} {i : Nat} {g : Γ → Unit} (hi : GetS E i sDice g) (ha : SA md0 E S ta ma) : SE md0 E R (tCall (spOfD S R m) [] E0 (tCons (tVar i) ta)) fun ρ => (ma ρ).bind m := fun k F H σ ρ c Q w e h => by
  obtain ⟨o, h1, p, rfl, hp⟩ := hi.get e.r
  refine ⟨.ref p, h1, ha k F H σ ρ c _ w e (wp_imp h fun a c1 q vs F1 H1 x1 w1 r1 => ?_)⟩
  show spOfD S R m ((.ref p :: vs) ++ []) H1 Q E0
  rw [List.append_nil]
  obtain ⟨d1, _, d2⟩ := w1.dice p hp
  exact ⟨F1, p, vs, a, c1, rfl, w1.sub, d1, d2, r1, (m a).mono c1 (fun b c' z v F' H' x f d r => z v F' H' (x1.trans (w1.callD hp x f d).1) (w1.callD hp x f d).2 r)
    (fun _ z => XP.no w1 z) q⟩
end
inductive Ct (Γ Δ β : Type) where
  | nx (ρ : Γ)
  | rt (b : β)
  | bk (d : Δ)
  | ct (d : Δ)
namespace M
variable {Γ Γ' Δ α β : Type}
def thnK (f : Γ → M (Ct Γ' Δ β)) : Ct Γ Δ β → M (Ct Γ' Δ β)
  | .nx ρ => f ρ
  | .rt b => .ret (.rt b)
  | .bk d => .ret (.bk d)
  | .ct d => .ret (.ct d)
def thn (m : M (Ct Γ Δ β)) (f : Γ → M (Ct Γ' Δ β)) : M (Ct Γ' Δ β) := m.bind (thnK f)
def forK (f : Γ → M (Ct Γ Δ β)) : Ct Γ Γ β → M (Ct Γ Δ β)
  | .nx ρ => f ρ
  | .ct ρ => f ρ
  | .bk ρ => .ret (.nx ρ)
  | .rt b => .ret (.rt b)
def forM0 : List α → (α → Γ → M (Ct Γ Γ β)) → Γ → M (Ct Γ Δ β)
  | [], _, ρ => .ret (.nx ρ)
  | x :: xs, f, ρ => (f x ρ).bind (forK fun ρ' => forM0 xs f ρ')
theorem forM_ex {Γ Δ α β : Type} : ∃ g : List α → (α → Γ → M (Ct Γ Γ β)) → Γ → M (Ct Γ Δ β), (∀ f ρ, g [] f ρ = .ret (.nx ρ)) ∧ ∀ x xs f ρ, g (x :: xs) f ρ = (f x ρ).bind (forK fun ρ' => g xs f ρ') := ⟨forM0, fun _ _ => rfl, fun _ _ _ _ => rfl⟩
noncomputable def forM : List α → (α → Γ → M (Ct Γ Γ β)) → Γ → M (Ct Γ Δ β) := Classical.choose forM_ex
theorem forM_nil {f : α → Γ → M (Ct Γ Γ β)} {ρ : Γ} : forM (Δ := Δ) [] f ρ = .ret (.nx ρ) := (Classical.choose_spec (forM_ex (Γ := Γ) (Δ := Δ) (α := α) (β := β))).1 f ρ
theorem forM_cons {x : α} {xs : List α} {f : α → Γ → M (Ct Γ Γ β)} {ρ : Γ} : forM (Δ := Δ) (x :: xs) f ρ = (f x ρ).bind (forK fun ρ' => forM xs f ρ') := (Classical.choose_spec (forM_ex (Γ := Γ) (Δ := Δ) (α := α) (β := β))).2 x xs f ρ
def none {α : Type} : M α := ⟨fun _ _ _ => False, fun _ _ _ _ _ _ _ k => k⟩
def whileN (t : Γ → M Bool) (f : Γ → M (Ct Γ Γ β)) : Nat → Γ → M (Ct Γ Δ β)
  | 0, _ => M.none
  | n + 1, ρ => (t ρ).bind fun b => .ifb b ((f ρ).bind (forK fun ρ' => whileN t f n ρ')) (.ret (.nx ρ))
def whileM (t : Γ → M Bool) (f : Γ → M (Ct Γ Γ β)) (ρ : Γ) : M (Ct Γ Δ β) := ⟨fun c Q X => ∃ n, (whileN (Δ := Δ) t f n ρ).wp c Q X, fun c _ _ _ _ h x ⟨n, k⟩ => ⟨n, (whileN t f n ρ).mono c h x k⟩⟩
def lcM0 : List α → (α → M (Option β)) → M (List β)
  | [], _ => .ret []
  | x :: xs, f => (f x).bind fun o => (lcM0 xs f).bind fun ys => .ret (o.toList ++ ys)
theorem lcM_ex {α β : Type} : ∃ g : List α → (α → M (Option β)) → M (List β), (∀ f, g [] f = .ret []) ∧ ∀ x xs f, g (x :: xs) f = (f x).bind fun o => (g xs f).bind fun ys => .ret (o.toList ++ ys) := ⟨lcM0, fun _ => rfl, fun _ _ _ => rfl⟩
noncomputable def lcM : List α → (α → M (Option β)) → M (List β) := Classical.choose lcM_ex
theorem lcM_nil {f : α → M (Option β)} : lcM [] f = .ret [] := (Classical.choose_spec (lcM_ex (α := α) (β := β))).1 f
theorem lcM_cons {x : α} {xs : List α} {f : α → M (Option β)} : lcM (x :: xs) f = (f x).bind fun o => (lcM xs f).bind fun ys => .ret (o.toList ++ ys) := (Classical.choose_spec (lcM_ex (α := α) (β := β))).2 x xs f
def finK : Ct Γ Unit β → M β
  | .rt b => .ret b
  | _ => M.none
def finNK : Ct Γ Unit Unit → M Unit
  | .rt b => .ret b
  | .nx _ => .ret ()
  | _ => M.none
def fin (m : M (Ct Γ Unit β)) : M β := m.bind finK
def finN (m : M (Ct Γ Unit Unit)) : M Unit := m.bind finNK
end M
def SP {Γ Δ β : Type} (k : Cn) (F0 : Hp) (E' : EV Γ) (El : EV Δ) (R : Rp β) (D : Ends) : Ct Γ Δ β → Nat → Prop := fun t c' => match t with
  | .nx ρ => ∀ F H σ, Same F0 F → Wo k F H c' → EI k E' F H σ ρ → D.nx σ H
  | .rt b => ∀ v F H, Wo k F H c' → R.r F v b → D.rt v H
  | .bk d => ∀ F H σ, Same F0 F → Wo k F H c' → EI k El F H σ d → D.bk σ H
  | .ct d => ∀ F H σ, Same F0 F → Wo k F H c' → EI k El F H σ d → D.ct σ H
theorem SP.fz {Γ Δ β : Type} {k : Cn} {F0 F1 : Hp} {E' : EV Γ} {El : EV Δ} {R : Rp β} {D : Ends} {t : Ct Γ Δ β} {c : Nat} (s : Same F0 F1) (h : SP k F0 E' El R D t c) : SP k F1 E' El R D t c := by
  cases t with
  | nx ρ => exact fun F H σ z => h F H σ (s.trans z)
  | rt b => exact h
  | bk ρ => exact fun F H σ z => h F H σ (s.trans z)
  | ct ρ => exact fun F H σ z => h F H σ (s.trans z)
def SS {Γ Γ' Δ β : Type} (μ : Md) (E : EV Γ) (E' : EV Γ') (El : EV Δ) (R : Rp β) (ts : TS) (m : Γ → M (Ct Γ' Δ β)) : Prop :=
  ∀ (k : Cn) (F H : Hp) (σ : L2.St) (ρ : Γ) (c : Nat) (D : Ends), Wo k F H c → EI k E F H σ ρ → (m ρ).wp c (SP k F E' El R D) (XP μ k) → ts D σ H
def SG {Γ Γ' α : Type} (E : EV Γ) (R : Rp α) (g : TG) (E' : EV Γ') (put : Γ → α → Γ') : Prop :=
  ∀ (k : Cn) (F H : Hp) (σ : L2.St) (ρ : Γ) (c : Nat) (v : V) (a : α) (Q : L2.St → Hp → Prop), Wo k F H c → EI k E F H σ ρ → R.r F v a → (∀ σ', EI k E' F H σ' (put ρ a) → Q σ' H) → g v σ H Q
def SGs {Γ Γ' α : Type} (E : EV Γ) (S : RA α) (g : TGs) (E' : EV Γ') (put : Γ → α → Γ') : Prop :=
  ∀ (k : Cn) (F H : Hp) (σ : L2.St) (ρ : Γ) (c : Nat) (vs : List V) (a : α) (Q : L2.St → Hp → Prop), Wo k F H c → EI k E F H σ ρ → S.r F vs a → (∀ σ', EI k E' F H σ' (put ρ a) → Q σ' H) → g vs σ H Q
section
variable {Γ Γ' Γ'' Δ Δ' α β γ δ : Type} {μ : Md} {E : EV Γ} {E' : EV Γ'} {E'' : EV Γ''} {El : EV Δ} {El' : EV Δ'} {Ra : Rp α} {Rb : Rp β} {R : Rp γ}
theorem g_name {i : Nat} {put : Γ → α → Γ'} (h : PutS E i (sVal Ra) E' put) : SG E Ra (gName i) E' put := fun k F H σ ρ c v a Q w e r q =>
  q _ ⟨h.put e.r ⟨v, rfl, r⟩, h.nd e.nd fun _ z => nomatch z⟩
theorem gs_nil : SGs E aNil gNil E fun ρ _ => ρ := fun k F H σ ρ c vs a Q w e r q => ⟨r, q σ e⟩
theorem gs_cons {S : RA β} {g : TG} {gs : TGs} {put : Γ → α → Γ'} {put' : Γ' → β → Γ''} (h : SG E Ra g E' put) (hs : SGs E' S gs E'' put') : SGs E (aCons Ra S) (gCons g gs) E'' fun ρ a => put' (put ρ a.1) a.2 := fun k F H σ ρ c vs a Q w e ⟨v, ws, ev, r, t⟩ q =>
  ⟨v, ws, ev, h k F H σ ρ c v a.1 _ w e r fun σ' e' => hs k F H σ' _ c ws a.2 Q w e' t q⟩
theorem g_tup {K : PySem.W.Frag} {S : RA α} {n : Nat} {gs : TGs} {put : Γ → α → Γ'} (h : SGs E S gs E' put) (hn : S.n = n) : SG E (rTx K S) (gTup K n gs) E' put := fun k F H σ ρ c v a Q w e ⟨p, vs, ev, hp, r⟩ q =>
  ⟨p, vs, ev, same_seqT w.sub hp, (S.len r).trans hn, h k F H σ ρ c vs a Q w e r q⟩
theorem s_asg {te : TE} {m : Γ → M α} {g : TG} {put : Γ → α → Γ'} (he : SE μ E Ra te m) (hg : SG E Ra g E' put) : SS μ E E' El R (tAsg te g) fun ρ => (m ρ).bind fun a => .ret (.nx (put ρ a)) := fun k F H σ ρ c D w e h =>
  he k F H σ ρ c _ w e (wp_imp h fun a c1 q v F1 H1 x1 w1 r1 => hg k F1 H1 σ ρ c1 v a _ w1 (e.step x1) r1 fun σ' e' => q F1 H1 σ' x1.fz w1 e')
theorem s_new {te : TE} {m : Γ → M (List α)} {i : Nat} {put : Γ → List α → Γ'} (he : SN μ E Ra te m) (hp : PutS E i (sOwn Ra) E' put) : SS μ E E' El R (tAsg te (gName i)) fun ρ => (m ρ).bind fun a => .ret (.nx (put ρ a)) := fun k F H σ ρ c D w e h =>
  he k F H σ ρ c _ w e (wp_imp h fun a c1 q D' vs F1 H1 x1 w1 n n0 hD f r1 => by
    have e1 := e.step x1
    exact q F1 H1 _ x1.fz w1 ⟨hp.put e1.r ⟨D', vs, rfl, hD, r1, f, n0, w1.np n0⟩, hp.nd e1.nd fun D'' ed z => by
      cases ed
      exact absurd n (E.has e.r z).1⟩)
theorem s_nil : SS μ E E El R tNext fun ρ => .ret (.nx ρ) := fun k F H σ ρ c D w e h => h F H σ (Same.refl F) w e
theorem s_seq {t u : TS} {m : Γ → M (Ct Γ' Δ γ)} {n : Γ' → M (Ct Γ'' Δ γ)} (h : SS μ E E' El R t m) (h' : SS μ E' E'' El R u n) : SS μ E E'' El R (tSeq t u) fun ρ => (m ρ).thn n := fun k F H σ ρ c D w e q =>
  h k F H σ ρ c _ w e (wp_imp q fun t c1 z => by
    cases t with
    | nx ρ' => exact fun F1 H1 σ1 s1 w1 e1 => h' k F1 H1 σ1 ρ' c1 D w1 e1 (wp_imp z fun _ _ z => z.fz s1)
    | rt b => exact z
    | bk d => exact z
    | ct d => exact z)
theorem s_if {tt : TT} {t u : TS} {mt : Γ → M Bool} {m n : Γ → M (Ct Γ' Δ γ)} (ht : ST μ E tt mt) (h : SS μ E E' El R t m) (h' : SS μ E E' El R u n) : SS μ E E' El R (tIfS tt t u) fun ρ => (mt ρ).bind fun b => .ifb b (m ρ) (n ρ) := fun k F H σ ρ c D w e q =>
  ht k F H σ ρ c _ w e (wp_imp q fun b c1 z F1 H1 x1 w1 => by
    cases b with
    | true => exact h k F1 H1 σ ρ c1 D w1 (e.step x1) (wp_imp z fun _ _ z => z.fz x1.fz)
    | false => exact h' k F1 H1 σ ρ c1 D w1 (e.step x1) (wp_imp z fun _ _ z => z.fz x1.fz))
theorem s_ret {te : TE} {m : Γ → M γ} (he : SE μ E R te m) : SS μ E E' El R (tRet te) fun ρ => (m ρ).bind fun a => .ret (.rt a) := fun k F H σ ρ c D w e h =>
  he k F H σ ρ c _ w e (wp_imp h fun a c1 q v F1 H1 x1 w1 r1 => q v F1 H1 w1 r1)
theorem s_drop {te : TE} {m : Γ → M α} (he : SE μ E Ra te m) : SS μ E E El R (tDrop te) fun ρ => (m ρ).bind fun _ => .ret (.nx ρ) := fun k F H σ ρ c D w e h =>
  he k F H σ ρ c _ w e (wp_imp h fun a c1 q v F1 H1 x1 w1 r1 => q F1 H1 σ x1.fz w1 (e.step x1))
def Wk (E : EV Γ) (E' : EV Γ') (f : Γ → Γ') : Prop := ∀ (k : Cn) (F H : Hp) (σ : L2.St) (ρ : Γ) (c : Nat), Wo k F H c → EI k E F H σ ρ → ∃ F', Same F F' ∧ Wo k F' H c ∧ EI k E' F' H σ (f ρ)
theorem s_pre {t : TS} {f : Γ → Γ'} {m : Γ' → M (Ct Γ'' Δ γ)} (w : Wk E E' f) (h : SS μ E' E'' El R t m) : SS μ E E'' El R t fun ρ => m (f ρ) := fun k F H σ ρ c D wo e q => by
  obtain ⟨F', s', w', e'⟩ := w k F H σ ρ c wo e
  exact h k F' H σ (f ρ) c D w' e' (wp_imp q fun _ _ z => z.fz s')
theorem s_post {t : TS} {f : Γ' → Γ''} {m : Γ → M (Ct Γ' Δ γ)} (h : SS μ E E' El R t m) (wk : Wk E' E'' f) : SS μ E E'' El R t fun ρ => (m ρ).thn fun ρ' => .ret (.nx (f ρ')) := fun k F H σ ρ c D w e q =>
  h k F H σ ρ c D w e (wp_imp q fun t c1 z => by
    cases t with
    | nx ρ' =>
      intro F1 H1 σ1 s1 w1 e1
      obtain ⟨F', s', w', e'⟩ := wk k F1 H1 σ1 ρ' c1 w1 e1
      exact z F' H1 σ1 (s1.trans s') w' e'
    | rt b => exact z
    | bk d => exact z
    | ct d => exact z)
structure Fg (E : EV Γ) (E' : EV Γ') (f : Γ → Γ') : Prop where
  r : ∀ {p : Option Addr} {H0 F H : Hp} {σ : L2.St} {ρ : Γ}, E.r p H0 F H σ ρ → E'.r p H0 F H σ (f ρ)
  ow : ∀ σ, (E'.owns σ).Sublist (E.owns σ)
theorem fg_nil : Fg eNil eNil id := ⟨id, fun _ => List.Sublist.refl _⟩
theorem fg_keep {S : SR α} {f : Γ → Γ'} (h : Fg E E' f) : Fg (eCons S E) (eCons S E') fun ρ => (ρ.1, f ρ.2) := ⟨fun ⟨o, τ, e, r, t⟩ => ⟨o, τ, e, r, h.r t⟩, fun σ => by
  cases σ with
  | nil => exact List.Sublist.refl _
  | cons o τ => exact List.Sublist.append (List.Sublist.refl _) (h.ow τ)⟩
theorem fg_un {S : SR α} {f : Γ → Γ'} (h : Fg E E' f) : Fg (eCons S E) (eCons sUn E') fun ρ => ((), f ρ.2) := ⟨fun ⟨o, τ, e, r, t⟩ => ⟨o, τ, e, trivial, h.r t⟩, fun σ => by
  cases σ with
  | nil => exact List.Sublist.refl _
  | cons o τ => exact (h.ow τ).trans (List.sublist_append_right _ _)⟩
theorem wk_fg {f : Γ → Γ'} (h : Fg E E' f) : Wk E E' f := fun k F H σ ρ c w e => ⟨F, Same.refl F, w, h.r e.r, e.nd.sublist (h.ow σ)⟩
structure FzS (E : EV Γ) (i : Nat) (R : Rp α) (E' : EV Γ') (f : Γ → Γ') : Prop where
  get : ∀ {p : Option Addr} {H0 F H : Hp} {σ : L2.St} {ρ : Γ}, E.r p H0 F H σ ρ → ∃ D vs, σ[i]? = some (some (.ref D)) ∧ H D = some (.lst vs) ∧ F D = none ∧ H0 D = none ∧ D ∈ E.owns σ
  put : ∀ {p : Option Addr} {H0 F H : Hp} {σ : L2.St} {ρ : Γ} {D : Addr} {vs : List V}, E.r p H0 F H σ ρ → (E.owns σ).Nodup → σ[i]? = some (some (.ref D)) → H D = some (.lst vs) → Same F (upd F D (.lst vs)) → E'.r p H0 (upd F D (.lst vs)) H σ (f ρ)
  ow : ∀ σ, (E'.owns σ).Sublist (E.owns σ)
theorem fz0 : FzS (eCons (sOwn Ra) E) 0 Ra (eCons (sVal (rLs Ra)) E) id where
  get := fun ⟨o, τ, e, ⟨D, vs, e2, h, t, n1, n2, n3⟩, _⟩ => ⟨D, vs, by rw [e, e2]; rfl, h, n1, n2, by rw [e, e2]; exact List.mem_cons_self⟩
  put := fun {p H0 F H σ ρ D vs} ⟨o, τ, e, ⟨D', vs', e2, h, t, n1, n2, n3⟩, q⟩ n hi hD s => by
    subst e e2
    obtain rfl : D' = D := by
      have hi' : some (some (V.ref D')) = some (some (V.ref D)) := hi
      cases hi'; rfl
    rw [h] at hD
    obtain rfl : vs' = vs := by cases hD; rfl
    exact ⟨_, τ, rfl, ⟨_, rfl, D', vs', rfl, upd_same, t.imp fun _ _ g => Ra.st s g⟩, E.fz s (List.nodup_cons.mp n).1 (.lst h) q⟩
  ow := fun σ => by
    cases σ with
    | nil => exact List.Sublist.refl _
    | cons o τ => exact List.sublist_append_right _ _
theorem fzS {S : SR β} {i : Nat} {f : Γ → Γ'} (h : FzS E i Ra E' f) : FzS (eCons S E) (i + 1) Ra (eCons S E') fun ρ => (ρ.1, f ρ.2) where
  get := fun ⟨o, τ, e, _, q⟩ => by
    obtain ⟨D, vs, h1, h2, h3, h4, h5⟩ := h.get q
    exact ⟨D, vs, by rw [e]; simpa using h1, h2, h3, h4, by rw [e]; exact List.mem_append_right _ h5⟩
  put := fun {p H0 F H σ ρ D vs} ⟨o, τ, e, t, q⟩ n hi hD s => by
    subst e
    obtain ⟨n1, n2, n3⟩ := List.nodup_append.mp n
    have hi' : τ[i]? = some (some (.ref D)) := by simpa using hi
    obtain ⟨D', vs', h1, h2, _, _, h4⟩ := h.get q
    rw [hi'] at h1
    obtain rfl : D = D' := by cases h1; rfl
    exact ⟨o, τ, rfl, S.fz s (fun z => n3 D (by rw [z]; simp) D h4 rfl) (.lst hD) t, h.put q n2 hi' hD s⟩
  ow := fun σ => by
    cases σ with
    | nil => exact List.Sublist.refl _
    | cons o τ => exact List.Sublist.append (List.Sublist.refl _) (h.ow τ)
theorem wk_fz {i : Nat} {f : Γ → Γ'} (h : FzS E i Ra E' f) : Wk E E' f := fun k F H σ ρ c w e => by
  obtain ⟨D, vs, h1, h2, h3, h4, _⟩ := h.get e.r
  obtain ⟨s, w2⟩ := w.fz h4 h3 h2
  exact ⟨_, s, w2, h.put e.r e.nd h1 h2 s, e.nd.sublist (h.ow σ)⟩
theorem s_for {wi : TI} {g : TG} {tb : TS} {ml : Γ → M (List α)} {put : Γ → α → Γ'} {mb : Γ' → M (Ct Γ Γ γ)} (hi : SI μ E Ra wi ml) (hg : SG E Ra g E' put) (hb : SS μ E' E E R tb mb) :
    SS μ E E El R (tFor wi g tb) fun ρ => (ml ρ).bind fun xs => M.forM xs (fun a ρ => mb (put ρ a)) ρ := fun k F H σ ρ c D w e h =>
  hi k F H σ ρ c _ w e (wp_imp h fun xs c1 q J F1 H1 x1 w1 wk => by
    refine ⟨fun i n σ' H' => n = xs.length - i ∧ i ≤ xs.length ∧ ∃ F' ρ' c', Same F1 F' ∧ Wo k F' H' c' ∧ EI k E F' H' σ' ρ' ∧ (M.forM (Δ := Δ) (xs.drop i) (fun a ρ => mb (put ρ a)) ρ').wp c' (SP k F1 E El R D) (XP μ k),
      ⟨xs.length, by simp, Nat.zero_le _, F1, ρ, c1, Same.refl _, w1, e.step x1, wp_imp q fun _ _ z => z.fz x1.fz⟩, ?_⟩
    rintro i n σ' H' ⟨rfl, hi, F', ρ', c', sF, w', e', q'⟩
    obtain ⟨go, stop⟩ := wk i F' H' sF w'.sub
    by_cases hlt : i < xs.length
    · obtain ⟨g1, g2⟩ := go _ (List.getElem?_eq_getElem hlt)
      have ed : xs.drop i = xs[i] :: xs.drop (i + 1) := List.drop_eq_getElem_cons hlt
      rw [ed, M.forM_cons] at q'
      refine .inr ⟨g1, fun σ2 H2 => ∃ F2 ρ2 c2, Same F1 F2 ∧ Wo k F2 H2 c2 ∧ EI k E F2 H2 σ2 ρ2 ∧ (M.forM (Δ := Δ) (xs.drop (i + 1)) (fun a ρ => mb (put ρ a)) ρ2).wp c2 (SP k F1 E El R D) (XP μ k),
        fun σ2 H2 z => ⟨xs.length - (i + 1), by omega, rfl, hlt, z⟩, fun x H2 y => ?_⟩
      obtain ⟨F2, x2, r2⟩ := g2 x H2 y
      obtain ⟨x2', w2⟩ := w'.call x2
      have s12 : Same F1 F2 := sF.trans x2.fz
      refine hg k F2 H2 σ' ρ' c' x _ _ w2 (e'.step x2') r2 fun σ3 e3 => ?_
      refine hb k F2 H2 σ3 _ c' _ w2 e3 ((mb _).mono c' (fun t c3 z => ?_) (fun _ z => z) q')
      cases t with
      | nx ρ4 => exact fun F4 H4 σ4 s4 w4 e4 => ⟨F4, ρ4, c3, s12.trans s4, w4, e4, z⟩
      | ct ρ4 => exact fun F4 H4 σ4 s4 w4 e4 => ⟨F4, ρ4, c3, s12.trans s4, w4, e4, z⟩
      | bk ρ4 => exact fun F4 H4 σ4 s4 w4 e4 => z F4 H4 σ4 (s12.trans s4) w4 e4
      | rt b => exact fun v F4 H4 w4 r4 => z v F4 H4 w4 r4
    · have e0 : i = xs.length := by omega
      subst e0
      rw [List.drop_length, M.forM_nil] at q'
      exact .inl ⟨stop (Nat.le_refl _), q' F' H' σ' sF w' e'⟩)
theorem s_while {tt : TT} {tb : TS} {mt : Γ → M Bool} {mb : Γ → M (Ct Γ Γ γ)} (ht : ST μ E tt mt) (hb : SS μ E E E R tb mb) : SS μ E E El R (tWhile tt tb) fun ρ => M.whileM mt mb ρ := fun k F H σ ρ c D w e ⟨n, h⟩ => by
  refine ⟨fun n σ' H' => ∃ F' ρ' c', Same F F' ∧ Wo k F' H' c' ∧ EI k E F' H' σ' ρ' ∧ (M.whileN (Δ := Δ) mt mb n ρ').wp c' (SP k F E El R D) (XP μ k), ⟨n, F, ρ, c, Same.refl _, w, e, h⟩, ?_⟩
  rintro n σ' H' ⟨F', ρ', c', sF, w', e', q'⟩
  cases n with
  | zero => exact q'.elim
  | succ n =>
    refine ht k F' H' σ' ρ' c' _ w' e' (wp_imp q' fun b c2 z F2 H2 x2 w2 => ?_)
    cases b with
    | false => exact z F2 H2 σ' (sF.trans x2.fz) w2 (e'.step x2)
    | true =>
      refine ⟨fun σ3 H3 => ∃ F' ρ' c', Same F F' ∧ Wo k F' H3 c' ∧ EI k E F' H3 σ3 ρ' ∧ (M.whileN (Δ := Δ) mt mb n ρ').wp c' (SP k F E El R D) (XP μ k), fun σ3 H3 z => ⟨n, Nat.lt_succ_self n, z⟩, ?_⟩
      have s2 : Same F F2 := sF.trans x2.fz
      refine hb k F2 H2 σ' ρ' c2 _ w2 (e'.step x2) ((mb _).mono c2 (fun t c3 z => ?_) (fun _ z => z) z)
      cases t with
      | nx ρ4 => exact fun F4 H4 σ4 s4 w4 e4 => ⟨F4, ρ4, c3, s2.trans s4, w4, e4, z⟩
      | ct ρ4 => exact fun F4 H4 σ4 s4 w4 e4 => ⟨F4, ρ4, c3, s2.trans s4, w4, e4, z⟩
      | bk ρ4 => exact fun F4 H4 σ4 s4 w4 e4 => z F4 H4 σ4 (s2.trans s4) w4 e4
      | rt b => exact fun v F4 H4 w4 r4 => z v F4 H4 w4 r4
theorem ExtX.mod {p : Option Addr} {F H F' H' : Hp} {D : Addr} {o : HO} (x : ExtX p F H F' H') (n : H D = none) (f : F' D = none) : ExtX p F H F' (upd H' D o) := by
  refine ⟨x.fz, fun b u e => ?_, fun b u np nt e => ?_, x.old, fun b nb => ?_, fun ta p hp => (x.tb ta p hp).go (x.tb ta p hp).1 (fun o z => by rw [upd_ne ((ta p hp).ne n)]; exact z) (Same.refl _)⟩
  · rw [upd_ne (ne_of_none e f)]; exact x.sub _ _ e
  · rw [upd_ne (ne_of_none e n)]; exact x.hpn b u np nt e
  · by_cases c : b = D
    · subst c; rw [upd_same]; simp
    · rw [upd_ne c]; exact x.on b nb
theorem Wo.mod {k : Cn} {F H : Hp} {c : Nat} {D : Addr} {o : HO} (w : Wo k F H c) (n : k.H0 D = none) (f : F D = none) : Wo k F (upd H D o) c := by
  have x := w.ext.mod (o := o) n f
  refine ⟨x.sub, x, fun a e => ?_⟩
  obtain ⟨h1, h2, h3⟩ := w.dice a e
  have ne : a ≠ D := fun z => by subst z; exact h2 n
  obtain ⟨d0, d1, d2, h, r⟩ := h3
  exact ⟨h1, h2, d0, d1, d2, by rw [upd_ne ne]; exact h, r⟩
def SGw (js : List Nat) (E : EV Γ) (R : Rp α) (g : TG) (E' : EV Γ') (put : Γ → α → Γ') : Prop :=
  ∀ (k : Cn) (F H : Hp) (σ : L2.St) (ρ : Γ) (c : Nat) (v : V) (a : α) (Q : L2.St → Hp → Prop), Wo k F H c → EI k E F H σ ρ → R.r F v a → (∀ σ', wipe σ' js = wipe σ js → EI k E' F H σ' (put ρ a) → Q σ' H) → g v (wipe σ js) H Q
theorem gw_name {j : Nat} {put : Γ → α → Γ'} (h : PutS E j (sVal Ra) E' put) : SGw [j] E Ra (gName j) E' put := fun k F H σ ρ c v a Q w e r q => by
  show Q ((σ.set j none).set j (some v)) H
  rw [List.set_set]
  refine q _ ?_ ⟨h.put e.r ⟨v, rfl, r⟩, h.nd e.nd fun _ z => nomatch z⟩
  show (σ.set j (some v)).set j none = σ.set j none
  rw [List.set_set]
theorem EI.upd {k : Cn} {F H : Hp} {σ : L2.St} {ρ : Γ} {D : Addr} {o : HO} (e : EI k E F H σ ρ) (n : D ∉ E.owns σ) (w : NwL H D) : EI k E F (L2.upd H D o) σ ρ := ⟨E.upd n w e.r, e.nd⟩
theorem t_yes : ST μ E tYes fun _ => .ret true := fun k F H σ ρ c Q w e q => q F H (ExtX.refl w.sub) w
theorem n_lc {wi : TI} {tt : TT} {te : TE} {js : List Nat} {ml : Γ → M (List α)} {put : Γ → α → Γ'} {mt : Γ' → M Bool} {me : Γ' → M β} {gg : TG} (hi : SI μ E Ra wi ml) (hg : SGw js E Ra gg E' put) (ht : ST μ E' tt mt) (he : SE μ E' Rb te me) :
    SN μ E Rb (tLc wi gg tt te js) fun ρ => (ml ρ).bind fun xs => .need (xs.length ≤ 1000000) (M.lcM xs fun a => (mt (put ρ a)).bind fun b => .ifb b ((me (put ρ a)).bind fun y => .ret (some y)) (.ret none)) := fun k F H σ ρ c Q w e h =>
  hi k F H σ ρ c _ w e (wp_imp h fun xs c1 ⟨hxs, q⟩ J F1 H1 x1 w1 wk D nD => by
    have nDH : H D = none := by
      cases z : H D with
      | none => rfl
      | some o => exact absurd nD (x1.on D (by rw [z]; simp))
    have nD0 := w.h0 nDH
    have nDF : F1 D = none := w1.sub.free nD
    have now : D ∉ E.owns σ := fun z => (E.has e.r z).1 nDH
    have np : k.p ≠ some D := w.np nD0
    refine ⟨fun i n H' => n = xs.length - i ∧ i ≤ xs.length ∧ ∃ F' c' acc ys, Same F1 F' ∧ ExtX k.p F H F' H' ∧ Wo k F' H' c' ∧ EI k E F' H' σ ρ ∧ F' D = none ∧ H' D = some (.lst acc) ∧ acc.length ≤ i ∧ All2 (Rb.r F') acc ys ∧
        (M.lcM (xs.drop i) fun a => (mt (put ρ a)).bind fun b => .ifb b ((me (put ρ a)).bind fun y => .ret (some y)) (.ret none)).wp c' (fun zs c => VN k F H Rb Q (ys ++ zs) c) (XP μ k),
      ⟨xs.length, by simp, Nat.zero_le _, F1, c1, [], [], Same.refl _, x1.mod nDH nDF, w1.mod nD0 nDF, (e.step x1).upd now (.inl nD), nDF, upd_same, Nat.le_refl _, .nil, q⟩, ?_⟩
    rintro i n H' ⟨rfl, hi, F', c', acc, ys, s1, x', w', e', f', hD', hl, al, q'⟩
    obtain ⟨go, stop⟩ := wk i F' H' s1 w'.sub
    by_cases hlt : i < xs.length
    · obtain ⟨g1, g2⟩ := go _ (List.getElem?_eq_getElem hlt)
      have ed : xs.drop i = xs[i] :: xs.drop (i + 1) := List.drop_eq_getElem_cons hlt
      rw [ed, M.lcM_cons] at q'
      refine .inr ⟨g1, fun H2 => i + 1 ≤ xs.length ∧ ∃ F' c' acc ys, Same F1 F' ∧ ExtX k.p F H F' H2 ∧ Wo k F' H2 c' ∧ EI k E F' H2 σ ρ ∧ F' D = none ∧ H2 D = some (.lst acc) ∧ acc.length ≤ i + 1 ∧ All2 (Rb.r F') acc ys ∧
        (M.lcM (xs.drop (i + 1)) fun a => (mt (put ρ a)).bind fun b => .ifb b ((me (put ρ a)).bind fun y => .ret (some y)) (.ret none)).wp c' (fun zs c => VN k F H Rb Q (ys ++ zs) c) (XP μ k),
        fun H2 ⟨z0, z⟩ => ⟨xs.length - (i + 1), by omega, rfl, z0, z⟩, fun x H2 y => ?_⟩
      obtain ⟨F2, x2, r2⟩ := g2 x H2 y
      obtain ⟨x2', w2⟩ := w'.call x2
      refine hg k F2 H2 σ ρ c' x _ _ w2 (e'.step x2') r2 fun σ3 hw e3 => ⟨hw, ?_⟩
      refine ht k F2 H2 σ3 _ c' _ w2 e3 (wp_imp q' fun b c3 z F3 H3 x3 w3 => ?_)
      have x13 := x2'.trans x3
      have f3 : F3 D = none := (x13.old D (some_ne hD')).trans f'
      have h3 : H3 D = some (.lst acc) := x13.hp D _ np hD'
      cases b with
      | false => exact ⟨hlt, F3, c3, acc, ys, s1.trans x13.fz, x'.trans x13, w3, e'.step x13, f3, h3, Nat.le_succ_of_le hl, al.imp fun _ _ g => Rb.st x13.fz g, z⟩
      | true =>
        refine he k F3 H3 σ3 _ c3 _ w3 (e3.step x3) (wp_imp z fun y c4 z v F4 H4 x4 w4 r4 => ?_)
        have x14 := x13.trans x4
        have f4 : F4 D = none := (x14.old D (some_ne hD')).trans f'
        have h4 : H4 D = some (.lst acc) := x14.hp D _ np hD'
        refine ⟨acc, h4, by rw [sizeLine_eq]; omega, hlt, F4, c4, acc ++ [v], ys ++ [y], s1.trans x14.fz, (x'.trans x14).mod nDH f4, w4.mod nD0 f4, (e'.step x14).upd now (.lst h4), f4, upd_same, by rw [List.length_append]; exact Nat.succ_le_succ hl, (al.imp fun _ _ g => Rb.st x14.fz g).snoc r4, ?_⟩
        exact wp_imp z fun zs c z => by
          rw [List.append_assoc]
          exact z
    · have e0 : i = xs.length := by omega
      subst e0
      rw [List.drop_length, M.lcM_nil] at q'
      refine .inl ⟨stop (Nat.le_refl _), ?_⟩
      have z : VN k F H Rb Q (ys ++ []) c' := q'
      rw [List.append_nil] at z
      exact z D acc F' H' x' w' nDH nD0 hD' f' al)
theorem i_ls {K : PySem.W.Frag} {tl : TE} {m : Γ → M (List α)} (h : SE μ E (rLs Ra) tl m) : SI μ E Ra (iList K tl) m := fun k F H σ ρ c W w e q =>
  h k F H σ ρ c _ w e (wp_imp q fun xs c1 z v F1 H1 x1 w1 ⟨p, vs, ev, hp, al⟩ => ⟨p, ev, ⟨vs, .of (w1.sub _ _ hp)⟩, z _ F1 H1 x1 w1 fun i F' H' s1 s2 => by
    have sq : SqL K H' p vs := .of (s2 _ _ (s1 _ _ hp))
    refine ⟨fun a ha => ?_, fun hi => ⟨vs, sq, by rw [al.len]; exact hi⟩⟩
    obtain ⟨u, hu, r⟩ := al.get ha
    exact ⟨⟨vs, u, sq, hu⟩, fun x H'' ⟨e1, e2⟩ => by
      subst e1
      have := e2 vs sq
      rw [hu] at this
      cases this
      exact ⟨F', ExtX.refl s2, Ra.st s1 r⟩⟩⟩)
theorem i_tup {K : PySem.W.Frag} {tl : TE} {m : Γ → M (List α)} (h : SE μ E (rTup K Ra) tl m) : SI μ E Ra (iTup K tl) m := fun k F H σ ρ c W w e q =>
  h k F H σ ρ c _ w e (wp_imp q fun xs c1 z v F1 H1 x1 w1 ⟨p, vs, ev, hp, al⟩ => ⟨p, ev, ⟨vs, same_seqT w1.sub hp⟩, z _ F1 H1 x1 w1 fun i F' H' s1 s2 => by
    have sq : SqT K H' p vs := same_seqT s2 (same_seqT s1 hp)
    refine ⟨fun a ha => ?_, fun hi => ⟨vs, sq, by rw [al.len]; exact hi⟩⟩
    obtain ⟨u, hu, r⟩ := al.get ha
    exact ⟨⟨vs, u, sq, hu⟩, fun x H'' ⟨e1, e2⟩ => by
      subst e1
      have := e2 vs sq
      rw [hu] at this
      cases this
      exact ⟨F', ExtX.refl s2, Ra.st s1 r⟩⟩⟩)
theorem rng_ex (lo hi : Int) : ∃ l : List Int, l = (List.range (hi - lo).toNat).map fun i : Nat => lo + (i : Int) := ⟨_, rfl⟩
noncomputable def rng (lo hi : Int) : List Int := Classical.choose (rng_ex lo hi)
theorem rng_eq (lo hi : Int) : rng lo hi = (List.range (hi - lo).toNat).map fun i : Nat => lo + (i : Int) := Classical.choose_spec (rng_ex lo hi)
theorem rng_get {lo hi a : Int} {i : Nat} (h : (rng lo hi)[i]? = some a) : i < (hi - lo).toNat ∧ a = lo + (i : Int) := by
  rw [rng_eq] at h
  rw [List.getElem?_map] at h
  cases z : (List.range (hi - lo).toNat)[i]? with
  | none => rw [z] at h; cases h
  | some j =>
    rw [z] at h
    obtain ⟨h1, h2⟩ := List.getElem?_eq_some_iff.mp z
    rw [List.length_range] at h1
    rw [List.getElem_range] at h2
    cases h
    exact ⟨h1, by rw [h2]⟩
theorem rng_walks {F1 : Hp} {lo hi : Int} : Walks (Itr lo (hi - lo).toNat) F1 rInt (rng lo hi) := fun i F' H' s1 s2 =>
  ⟨fun a ha => by
    obtain ⟨h1, h2⟩ := rng_get ha
    exact ⟨h1, fun x H'' ⟨e1, e2⟩ => ⟨F', by rw [e1]; exact ExtX.refl s2, by rw [h2]; exact e2⟩⟩, fun hi => by
    rw [rng_eq, List.length_map, List.length_range] at hi
    exact hi⟩
theorem i_rng1 {ta : TE} {ma : Γ → M Int} (ha : SE μ E rInt ta ma) : SI μ E rInt (iRng1 (tCons ta tNil)) fun ρ => (ma ρ).bind fun a => .need (-(2 ^ 62) ≤ a ∧ a < 2 ^ 62) (.ret (rng 0 a)) := fun k F H σ ρ c W w e h =>
  ha k F H σ ρ c _ w e (wp_imp h fun a c1 ⟨⟨q1, q2⟩, q⟩ v F1 H1 x1 w1 r1 => by
    cases r1
    exact ⟨a, rfl, q1, q2, q _ F1 H1 x1 w1 (by
      have z := rng_walks (F1 := F1) (lo := 0) (hi := a)
      rw [Int.sub_zero] at z
      exact z)⟩)
structure St0 (S : RA α) (n : Nat) (E : EV Γ) (ρ0 : α → Γ) : Prop where
  r : ∀ {p : Option Addr} {H0 F H : Hp} {vs : List V} {a : α}, S.r F vs a → E.r p H0 F H (vs.map some ++ List.replicate n none) (ρ0 a)
  ow : ∀ σ, E.owns σ = []
theorem st_nil : St0 aNil 0 eNil fun _ => () := ⟨fun h => by subst h; rfl, fun _ => rfl⟩
theorem st_un {n : Nat} {ρ0 : Unit → Γ} (h : St0 aNil n E ρ0) : St0 aNil (n + 1) (eCons sUn E) fun a => ((), ρ0 a) := ⟨fun {p H0 F H vs a} z => by
  have z' : vs = [] := z
  subst z'
  exact ⟨none, List.replicate n none, rfl, trivial, h.r (F := F) (vs := []) z⟩, fun σ => by
  cases σ with
  | nil => rfl
  | cons o τ => exact h.ow τ⟩
theorem st_par {S : RA β} {n : Nat} {ρ0 : β → Γ} (h : St0 S n E ρ0) : St0 (aCons Ra S) n (eCons (sVal Ra) E) fun a => (a.1, ρ0 a.2) := ⟨fun ⟨v, ws, e, r, t⟩ => ⟨some v, ws.map some ++ List.replicate n none, by rw [e]; rfl, ⟨v, rfl, r⟩, h.r t⟩, fun σ => by
  cases σ with
  | nil => rfl
  | cons o τ => exact h.ow τ⟩
structure StD (S : RA α) (n : Nat) (E : EV Γ) (ρ0 : α → Γ) : Prop where
  r : ∀ {p : Addr} {H0 F H : Hp} {vs : List V} {a : α}, S.r F vs a → E.r (some p) H0 F H ((.ref p :: vs).map some ++ List.replicate n none) (ρ0 a)
  ow : ∀ σ, E.owns σ = []
theorem st_dice {S : RA β} {n : Nat} {ρ0 : β → Γ} (h : St0 S n E ρ0) : StD S n (eCons sDice E) fun a => ((), ρ0 a) := ⟨fun {p H0 F H vs a} z => ⟨_, vs.map some ++ List.replicate n none, rfl, ⟨p, rfl, rfl⟩, h.r z⟩, fun σ => by
  cases σ with
  | nil => rfl
  | cons o τ => exact h.ow τ⟩
theorem start_eq {N : List Str} {vs : List V} {n : Nat} (h : N.length = vs.length + n) : L2.start N vs = vs.map some ++ List.replicate n none := by
  unfold L2.start
  rw [h, Nat.add_sub_cancel_left]
theorem fn_body {S : RA α} {n : Nat} {ρ0 : α → Γ} {N : List Str} {t : TS} {mb : Γ → M (Ct Γ' Unit γ)} (h0 : St0 S n E ρ0) (hn : N.length = S.n + n) (hb : SS md0 E E' eNil R t mb) {vs : List V} {H : Hp} {Q : VK} {X : XK}
    (hs : spOf S R (fun a => (mb (ρ0 a)).fin) vs H Q X) : t { nx := fun _ H' => Q .non H', rt := Q } (L2.start N vs) H := by
  obtain ⟨F, a, s, r, h⟩ := hs
  rw [start_eq (n := n) (by rw [hn, S.len r])]
  refine hb ⟨none, F, H⟩ F H _ (ρ0 a) 0 _ ⟨s, ExtX.refl s, fun _ e => nomatch e⟩ ⟨h0.r r, by rw [h0.ow]; exact List.nodup_nil⟩ ?_
  refine (mb (ρ0 a)).mono 0 (fun t c z => ?_) (fun er z => z.elim) h
  cases t with
  | nx _ => exact z.elim
  | rt b => exact fun v F' H' w r => z v F' H' w.ext r
  | bk _ => exact z.elim
  | ct _ => exact z.elim
theorem fn_bodyN {S : RA α} {n : Nat} {ρ0 : α → Γ} {N : List Str} {t : TS} {mb : Γ → M (Ct Γ' Unit Unit)} (h0 : St0 S n E ρ0) (hn : N.length = S.n + n) (hb : SS md0 E E' eNil rNon t mb) {vs : List V} {H : Hp} {Q : VK} {X : XK}
    (hs : spOf S rNon (fun a => (mb (ρ0 a)).finN) vs H Q X) : t { nx := fun _ H' => Q .non H', rt := Q } (L2.start N vs) H := by
  obtain ⟨F, a, s, r, h⟩ := hs
  rw [start_eq (n := n) (by rw [hn, S.len r])]
  refine hb ⟨none, F, H⟩ F H _ (ρ0 a) 0 _ ⟨s, ExtX.refl s, fun _ e => nomatch e⟩ ⟨h0.r r, by rw [h0.ow]; exact List.nodup_nil⟩ ?_
  refine (mb (ρ0 a)).mono 0 (fun t c z => ?_) (fun er z => z.elim) h
  cases t with
  | nx _ => exact fun F' H' σ' _ w _ => z .non F' H' w.ext rfl
  | rt b => exact fun v F' H' w r => z v F' H' w.ext r
  | bk _ => exact z.elim
  | ct _ => exact z.elim
theorem fn_bodyD {S : RA α} {n : Nat} {ρ0 : α → Γ} {N : List Str} {t : TS} {mb : Γ → M (Ct Γ' Unit γ)} (h0 : StD S n E ρ0) (hn : N.length = S.n + 1 + n) (hb : SS md0 E E' eNil R t mb) {vs : List V} {H : Hp} {Q : VK} {X : XK}
    (hs : spOfD S R (fun a => (mb (ρ0 a)).fin) vs H Q X) : t { nx := fun _ H' => Q .non H', rt := Q } (L2.start N vs) H := by
  obtain ⟨F, p, ws, a, c, rfl, s, f, d, r, h⟩ := hs
  rw [start_eq (n := n) (by rw [hn, List.length_cons, S.len r])]
  have hp : H p ≠ none := by obtain ⟨_, _, _, z, _⟩ := d; rw [z]; simp
  refine hb ⟨some p, F, H⟩ F H _ (ρ0 a) c _ ⟨s, ExtX.refl s, fun q e => by cases e; exact ⟨f, hp, d⟩⟩ ⟨h0.r r, by rw [h0.ow]; exact List.nodup_nil⟩ ?_
  refine (mb (ρ0 a)).mono c (fun t c z => ?_) (fun er z => z.elim) h
  cases t with
  | nx _ => exact z.elim
  | rt b => exact fun v F' H' w r => z v F' H' w.ext (w.dice p rfl).1 (w.dice p rfl).2.2 r
  | bk _ => exact z.elim
  | ct _ => exact z.elim
theorem spOf_len {S : RA α} {m : α → M γ} {vs : List V} {H : Hp} {Q : VK} {X : XK} (h : spOf S R m vs H Q X) : vs.length = S.n := by
  obtain ⟨F, a, s, r, _⟩ := h
  exact S.len r
theorem spOfD_len {S : RA α} {m : α → M γ} {vs : List V} {H : Hp} {Q : VK} {X : XK} (h : spOfD S R m vs H Q X) : vs.length = S.n + 1 := by
  obtain ⟨F, p, ws, a, c, rfl, s, f, d, r, _⟩ := h
  rw [List.length_cons, S.len r]
end
theorem gt1 {Γ α T0 : Type} {s0 : SR T0} {S : SR α} {E : EV Γ} : GetS (eCons s0 (eCons S E)) 1 S (fun ρ => ρ.2.1) := getS get0
theorem gt2 {Γ α T0 T1 : Type} {s0 : SR T0} {s1 : SR T1} {S : SR α} {E : EV Γ} : GetS (eCons s0 (eCons s1 (eCons S E))) 2 S (fun ρ => ρ.2.2.1) := getS gt1
theorem gt3 {Γ α T0 T1 T2 : Type} {s0 : SR T0} {s1 : SR T1} {s2 : SR T2} {S : SR α} {E : EV Γ} : GetS (eCons s0 (eCons s1 (eCons s2 (eCons S E)))) 3 S (fun ρ => ρ.2.2.2.1) := getS gt2
theorem gt4 {Γ α T0 T1 T2 T3 : Type} {s0 : SR T0} {s1 : SR T1} {s2 : SR T2} {s3 : SR T3} {S : SR α} {E : EV Γ} : GetS (eCons s0 (eCons s1 (eCons s2 (eCons s3 (eCons S E))))) 4 S (fun ρ => ρ.2.2.2.2.1) := getS gt3
theorem gt5 {Γ α T0 T1 T2 T3 T4 : Type} {s0 : SR T0} {s1 : SR T1} {s2 : SR T2} {s3 : SR T3} {s4 : SR T4} {S : SR α} {E : EV Γ} : GetS (eCons s0 (eCons s1 (eCons s2 (eCons s3 (eCons s4 (eCons S E)))))) 5 S (fun ρ => ρ.2.2.2.2.2.1) := getS gt4
theorem gt6 {Γ α T0 T1 T2 T3 T4 T5 : Type} {s0 : SR T0} {s1 : SR T1} {s2 : SR T2} {s3 : SR T3} {s4 : SR T4} {s5 : SR T5} {S : SR α} {E : EV Γ} : GetS (eCons s0 (eCons s1 (eCons s2 (eCons s3 (eCons s4 (eCons s5 (eCons S E))))))) 6 S (fun ρ => ρ.2.2.2.2.2.2.1) := getS gt5
theorem gt7 {Γ α T0 T1 T2 T3 T4 T5 T6 : Type} {s0 : SR T0} {s1 : SR T1} {s2 : SR T2} {s3 : SR T3} {s4 : SR T4} {s5 : SR T5} {s6 : SR T6} {S : SR α} {E : EV Γ} : GetS (eCons s0 (eCons s1 (eCons s2 (eCons s3 (eCons s4 (eCons s5 (eCons s6 (eCons S E)))))))) 7 S (fun ρ => ρ.2.2.2.2.2.2.2.1) := getS gt6
theorem gt8 {Γ α T0 T1 T2 T3 T4 T5 T6 T7 : Type} {s0 : SR T0} {s1 : SR T1} {s2 : SR T2} {s3 : SR T3} {s4 : SR T4} {s5 : SR T5} {s6 : SR T6} {s7 : SR T7} {S : SR α} {E : EV Γ} : GetS (eCons s0 (eCons s1 (eCons s2 (eCons s3 (eCons s4 (eCons s5 (eCons s6 (eCons s7 (eCons S E))))))))) 8 S (fun ρ => ρ.2.2.2.2.2.2.2.2.1) := getS gt7
theorem pu1 {Γ α β T0 : Type} {s0 : SR T0} {S : SR α} {S' : SR β} {E : EV Γ} : PutS (eCons s0 (eCons S E)) 1 S' (eCons s0 (eCons S' E)) (fun ρ b => (ρ.1, b, ρ.2.2)) := putS put0
theorem pu2 {Γ α β T0 T1 : Type} {s0 : SR T0} {s1 : SR T1} {S : SR α} {S' : SR β} {E : EV Γ} : PutS (eCons s0 (eCons s1 (eCons S E))) 2 S' (eCons s0 (eCons s1 (eCons S' E))) (fun ρ b => (ρ.1, ρ.2.1, b, ρ.2.2.2)) := putS pu1
theorem pu3 {Γ α β T0 T1 T2 : Type} {s0 : SR T0} {s1 : SR T1} {s2 : SR T2} {S : SR α} {S' : SR β} {E : EV Γ} : PutS (eCons s0 (eCons s1 (eCons s2 (eCons S E)))) 3 S' (eCons s0 (eCons s1 (eCons s2 (eCons S' E)))) (fun ρ b => (ρ.1, ρ.2.1, ρ.2.2.1, b, ρ.2.2.2.2)) := putS pu2
theorem pu4 {Γ α β T0 T1 T2 T3 : Type} {s0 : SR T0} {s1 : SR T1} {s2 : SR T2} {s3 : SR T3} {S : SR α} {S' : SR β} {E : EV Γ} : PutS (eCons s0 (eCons s1 (eCons s2 (eCons s3 (eCons S E))))) 4 S' (eCons s0 (eCons s1 (eCons s2 (eCons s3 (eCons S' E))))) (fun ρ b => (ρ.1, ρ.2.1, ρ.2.2.1, ρ.2.2.2.1, b, ρ.2.2.2.2.2)) := putS pu3
theorem pu5 {Γ α β T0 T1 T2 T3 T4 : Type} {s0 : SR T0} {s1 : SR T1} {s2 : SR T2} {s3 : SR T3} {s4 : SR T4} {S : SR α} {S' : SR β} {E : EV Γ} : PutS (eCons s0 (eCons s1 (eCons s2 (eCons s3 (eCons s4 (eCons S E)))))) 5 S' (eCons s0 (eCons s1 (eCons s2 (eCons s3 (eCons s4 (eCons S' E)))))) (fun ρ b => (ρ.1, ρ.2.1, ρ.2.2.1, ρ.2.2.2.1, ρ.2.2.2.2.1, b, ρ.2.2.2.2.2.2)) := putS pu4
theorem pu6 {Γ α β T0 T1 T2 T3 T4 T5 : Type} {s0 : SR T0} {s1 : SR T1} {s2 : SR T2} {s3 : SR T3} {s4 : SR T4} {s5 : SR T5} {S : SR α} {S' : SR β} {E : EV Γ} : PutS (eCons s0 (eCons s1 (eCons s2 (eCons s3 (eCons s4 (eCons s5 (eCons S E))))))) 6 S' (eCons s0 (eCons s1 (eCons s2 (eCons s3 (eCons s4 (eCons s5 (eCons S' E))))))) (fun ρ b => (ρ.1, ρ.2.1, ρ.2.2.1, ρ.2.2.2.1, ρ.2.2.2.2.1, ρ.2.2.2.2.2.1, b, ρ.2.2.2.2.2.2.2)) := putS pu5
theorem pu7 {Γ α β T0 T1 T2 T3 T4 T5 T6 : Type} {s0 : SR T0} {s1 : SR T1} {s2 : SR T2} {s3 : SR T3} {s4 : SR T4} {s5 : SR T5} {s6 : SR T6} {S : SR α} {S' : SR β} {E : EV Γ} : PutS (eCons s0 (eCons s1 (eCons s2 (eCons s3 (eCons s4 (eCons s5 (eCons s6 (eCons S E)))))))) 7 S' (eCons s0 (eCons s1 (eCons s2 (eCons s3 (eCons s4 (eCons s5 (eCons s6 (eCons S' E)))))))) (fun ρ b => (ρ.1, ρ.2.1, ρ.2.2.1, ρ.2.2.2.1, ρ.2.2.2.2.1, ρ.2.2.2.2.2.1, ρ.2.2.2.2.2.2.1, b, ρ.2.2.2.2.2.2.2.2)) := putS pu6
theorem pu8 {Γ α β T0 T1 T2 T3 T4 T5 T6 T7 : Type} {s0 : SR T0} {s1 : SR T1} {s2 : SR T2} {s3 : SR T3} {s4 : SR T4} {s5 : SR T5} {s6 : SR T6} {s7 : SR T7} {S : SR α} {S' : SR β} {E : EV Γ} : PutS (eCons s0 (eCons s1 (eCons s2 (eCons s3 (eCons s4 (eCons s5 (eCons s6 (eCons s7 (eCons S E))))))))) 8 S' (eCons s0 (eCons s1 (eCons s2 (eCons s3 (eCons s4 (eCons s5 (eCons s6 (eCons s7 (eCons S' E))))))))) (fun ρ b => (ρ.1, ρ.2.1, ρ.2.2.1, ρ.2.2.2.1, ρ.2.2.2.2.1, ρ.2.2.2.2.2.1, ρ.2.2.2.2.2.2.1, ρ.2.2.2.2.2.2.2.1, b, ρ.2.2.2.2.2.2.2.2.2)) := putS pu7
theorem mo1 {Γ α T0 : Type} {s0 : SR T0} {R : Rp α} {E : EV Γ} : ModS (eCons s0 (eCons (sOwn R) E)) 1 R (fun ρ => ρ.2.1) (fun ρ xs => (ρ.1, xs, ρ.2.2)) := modS mod0
theorem mo2 {Γ α T0 T1 : Type} {s0 : SR T0} {s1 : SR T1} {R : Rp α} {E : EV Γ} : ModS (eCons s0 (eCons s1 (eCons (sOwn R) E))) 2 R (fun ρ => ρ.2.2.1) (fun ρ xs => (ρ.1, ρ.2.1, xs, ρ.2.2.2)) := modS mo1
theorem mo3 {Γ α T0 T1 T2 : Type} {s0 : SR T0} {s1 : SR T1} {s2 : SR T2} {R : Rp α} {E : EV Γ} : ModS (eCons s0 (eCons s1 (eCons s2 (eCons (sOwn R) E)))) 3 R (fun ρ => ρ.2.2.2.1) (fun ρ xs => (ρ.1, ρ.2.1, ρ.2.2.1, xs, ρ.2.2.2.2)) := modS mo2
theorem fzz1 {Γ α T0 : Type} {s0 : SR T0} {R : Rp α} {E : EV Γ} : FzS (eCons s0 (eCons (sOwn R) E)) 1 R (eCons s0 (eCons (sVal (rLs R)) E)) (fun ρ => (ρ.1, ρ.2)) := fzS fz0
theorem fzz2 {Γ α T0 T1 : Type} {s0 : SR T0} {s1 : SR T1} {R : Rp α} {E : EV Γ} : FzS (eCons s0 (eCons s1 (eCons (sOwn R) E))) 2 R (eCons s0 (eCons s1 (eCons (sVal (rLs R)) E))) (fun ρ => (ρ.1, ρ.2.1, ρ.2.2)) := fzS fzz1
theorem fzz3 {Γ α T0 T1 T2 : Type} {s0 : SR T0} {s1 : SR T1} {s2 : SR T2} {R : Rp α} {E : EV Γ} : FzS (eCons s0 (eCons s1 (eCons s2 (eCons (sOwn R) E)))) 3 R (eCons s0 (eCons s1 (eCons s2 (eCons (sVal (rLs R)) E)))) (fun ρ => (ρ.1, ρ.2.1, ρ.2.2.1, ρ.2.2.2)) := fzS fzz2
section
variable {Γ Γ' Γ'' Δ α β γ δ : Type} {μ : Md} {E : EV Γ} {E' : EV Γ'} {E'' : EV Γ''} {El : EV Δ} {Ra : Rp α} {Rb : Rp β} {R : Rp γ} {K : PySem.W.Frag}
theorem VP.now {k : Cn} {F H : Hp} {c : Nat} {Q : VK} {v : V} {a : α} (w : Wo k F H c) (q : VP k F H Ra Q a c) (r : Ra.r F v a) : Q v H := q v F H (ExtX.refl w.sub) w r
theorem VP.newT {k : Cn} {F H : Hp} {c : Nat} {Q : VK} {a : α} {p : Addr} {o : HO} (w : Wo k F H c) (q : VP k F H Ra Q a c) (n : H p = none) (r : Same F (upd F p o) → Ra.r (upd F p o) (.ref p) a) : Q (.ref p) (upd H p o) :=
  q _ _ _ (ExtX.new (p := k.p) w.sub n o) (w.new n o) (r (ExtX.new (p := k.p) w.sub n o).fz)
theorem VN.newL {k : Cn} {F H : Hp} {c : Nat} {Q : VK} {xs : List α} {p : Addr} {vs : List V} (w : Wo k F H c) (q : VN k F H Ra Q xs c) (n : H p = none) (r : All2 (Ra.r F) vs xs) : Q (.ref p) (upd H p (.lst vs)) :=
  q p vs _ _ (ExtX.own (p := k.p) w.sub n _) (w.own n _) n (w.h0 n) upd_same (w.sub.free n) r
abbrev a1 (R : Rp α) : RA (α × Unit) := aCons R aNil
abbrev a2 (R : Rp α) (S : Rp β) : RA (α × β × Unit) := aCons R (aCons S aNil)
theorem one {F : Hp} {vs : List V} {a : α × Unit} (h : (a1 Ra).r F vs a) : ∃ v, vs = [v] ∧ Ra.r F v a.1 := by
  obtain ⟨v, ws, e, r, e2⟩ := h
  have e2' : ws = [] := e2
  exact ⟨v, by rw [e, e2'], r⟩
theorem two {F : Hp} {vs : List V} {a : α × β × Unit} (h : (a2 Ra Rb).r F vs a) : ∃ v w, vs = [v, w] ∧ Ra.r F v a.1 ∧ Rb.r F w a.2.1 := by
  obtain ⟨v, ws, e, r, u, us, e1, r2, e2⟩ := h
  have e2' : us = [] := e2
  exact ⟨v, u, by rw [e, e1, e2'], r, r2⟩
theorem c_abs : CaS μ (fun xs H Q => ∃ i, xs = [.int i] ∧ Q (.int (if i < 0 then -i else i)) H) (a1 rInt) rInt fun a => .ret (if a.1 < 0 then -a.1 else a.1) := fun k F H c vs a Q w r q => by
  obtain ⟨v, e, r⟩ := one r
  exact ⟨a.1, by rw [e, r], q.now w rfl⟩
theorem c_len {n : α → Nat} (h : ∀ {F H : Hp} {v : V} {a : α}, Same F H → Ra.r F v a → LenV K v H (n a)) : CaS μ (fun xs H Q => ∃ x n, xs = [x] ∧ LenV K x H n ∧ Q (.int n) H) (a1 Ra) rInt fun a => .ret (n a.1 : Int) := fun k F H c vs a Q w r q => by
  obtain ⟨v, e, r⟩ := one r
  exact ⟨v, n a.1, e, h w.sub r, q.now w rfl⟩
theorem len_ls {F H : Hp} {v : V} {xs : List α} (s : Same F H) (h : (rLs Ra).r F v xs) : LenV K v H xs.length := by
  obtain ⟨p, vs, rfl, hp, al⟩ := h
  exact .inl ⟨vs, .of (s _ _ hp), al.len.symm⟩
theorem len_tup {F H : Hp} {v : V} {xs : List α} (s : Same F H) (h : (rTup K Ra).r F v xs) : LenV K v H xs.length := by
  obtain ⟨p, vs, rfl, hp, al⟩ := h
  exact .inr ⟨vs, same_seqT s hp, al.len.symm⟩
theorem c_lenS : CaS μ (fun xs H Q => ∃ z, xs = [.str z] ∧ z.length ≤ sizeLine ∧ Q (.int z.length) H) (a1 rStr) rInt fun a => .need (a.1.length ≤ sizeLine) (.ret (a.1.length : Int)) := fun k F H c vs a Q w r q => by
  obtain ⟨v, e, r⟩ := one r
  exact ⟨a.1, by rw [e, r], q.1, VP.now w q.2 rfl⟩
theorem bl_ls {F H : Hp} {v : V} {xs : List Bool} (s : Same F H) (h : (rLs rBl).r F v xs) : ∃ p, v = .ref p ∧ SqL K H p (xs.map V.bl) := by
  obtain ⟨p, vs, rfl, hp, al⟩ := h
  exact ⟨p, rfl, .of (by rw [← al.to_map V.bl fun _ _ z => z]; exact s _ _ hp)⟩
theorem str_ls {F H : Hp} {v : V} {xs : List Str} (s : Same F H) (h : (rLs rStr).r F v xs) : ∃ p, v = .ref p ∧ SqL K H p (xs.map V.str) := by
  obtain ⟨p, vs, rfl, hp, al⟩ := h
  exact ⟨p, rfl, .of (by rw [← al.to_map V.str fun _ _ z => z]; exact s _ _ hp)⟩
theorem c_all : CaS μ (rAll K) (a1 (rLs rBl)) rBl fun a => .ret (a.1.all id) := fun k F H c vs a Q w r q => by
  obtain ⟨v, e, r⟩ := one r
  obtain ⟨p, ev, hp⟩ := bl_ls (K := K) w.sub r
  exact ⟨p, a.1, by rw [e, ev], hp, VP.now w q rfl⟩
theorem c_intI : CaS μ (fun xs H Q => (∃ i, xs = [.int i] ∧ Q (.int i) H) ∨ ∃ k, xs = [.bl k] ∧ Q (.int (if k then 1 else 0)) H) (a1 rInt) rInt fun a => .ret a.1 := fun k F H c vs a Q w r q => by
  obtain ⟨v, e, r⟩ := one r
  exact .inl ⟨a.1, by rw [e, r], VP.now w q rfl⟩
theorem c_listL : CaN μ (fun xs H Q => ∃ p ys, xs = [.ref p] ∧ (SqL K H p ys ∨ SqT K H p ys) ∧ ∀ l, H l = none → Q (.ref l) (upd H l (.lst ys))) (a1 (rLs Ra)) Ra fun a => .ret a.1 := fun k F H c vs a Q w r q => by
  obtain ⟨v, e, p, ys, ev, hp, al⟩ := one r
  exact ⟨p, ys, by rw [e, ev], .inl (.of (w.sub _ _ hp)), fun l n => VN.newL w q n al⟩
theorem c_tupL : CaS μ (fun xs H Q => ∃ p ys, xs = [.ref p] ∧ ((SqL K H p ys ∧ ∀ l, H l = none → Q (.ref l) (upd H l (.tup ys))) ∨ (SqT K H p ys ∧ Q (.ref p) H))) (a1 (rLs Ra)) (rTup K Ra) fun a => .ret a.1 := fun k F H c vs a Q w r q => by
  obtain ⟨v, e, p, ys, ev, hp, al⟩ := one r
  exact ⟨p, ys, by rw [e, ev], .inl ⟨.of (w.sub _ _ hp), fun l n => VP.newT w q n fun s => ⟨l, ys, rfl, .of upd_same, al.imp fun _ _ g => Ra.st s g⟩⟩⟩
theorem c_strI : CaS μ (fun xs H Q => ∃ i, xs = [.int i] ∧ i.natAbs.log2 < 1920 ∧ Q (.str (toString i)) H) (a1 rInt) rStr fun a => .need (a.1.natAbs.log2 < 1920) (.ret (toString a.1)) := fun k F H c vs a Q w r q => by
  obtain ⟨v, e, r⟩ := one r
  exact ⟨a.1, by rw [e, r], q.1, VP.now w q.2 rfl⟩
theorem c_repr {d : α → PyData} {n : Nat} (hd : DpR K Ra d n) : CaS μ (rRepr K) (a1 Ra) rStr fun a => .need ((d a.1).showable = true ∧ (d a.1).hasDict = false ∧ (d a.1).shown.length ≤ sizeLine ∧ (d a.1).depth ≤ 64) (.ret (d a.1).shown) := fun k F H c vs a Q w r q => by
  obtain ⟨v, e, r⟩ := one r
  exact ⟨v, d a.1, e, Dp.same w.sub (hd.dp r), q.1.1, q.1.2.1, q.1.2.2.1, q.1.2.2.2, VP.now w q.2 rfl⟩
theorem dp_int : DpR K rInt .int 0 := ⟨fun h => by subst h; exact .int _, fun _ => by simp [PyData.depth]⟩
theorem dp_bl : DpR K rBl .bool 0 := ⟨fun h => by subst h; exact .bl _, fun _ => by simp [PyData.depth]⟩
theorem dp_str : DpR K rStr .str 0 := ⟨fun h => by subst h; exact .str _, fun _ => by simp [PyData.depth]⟩
theorem dp_non : DpR K rNon (fun _ => .none) 0 := ⟨fun h => by subst h; exact .non, fun _ => by simp [PyData.depth]⟩
theorem dps_of {d : α → PyData} {n : Nat} (hd : DpR K Ra d n) {F : Hp} {vs : List V} {xs : List α} (al : All2 (Ra.r F) vs xs) : DpAll K F vs (xs.map d) := by
  induction al with
  | nil => exact .nil
  | cons h _ ih => exact .cons (hd.dp h) ih
theorem deep_all {d : α → PyData} {n : Nat} (h : ∀ a, (d a).depth ≤ n) : ∀ xs : List α, PyData.depthAll (xs.map d) ≤ n
  | [] => by simp [PyData.depthAll]
  | x :: xs => by
    show PyData.depthAll (d x :: xs.map d) ≤ n
    rw [PyData.depthAll]
    exact Nat.max_le.mpr ⟨h x, deep_all h xs⟩
theorem dp_ls {d : α → PyData} {n : Nat} (hd : DpR K Ra d n) : DpR K (rLs Ra) (fun xs => .list (xs.map d)) (n + 1) := ⟨fun ⟨p, vs, e, hp, al⟩ => by subst e; exact .lst (.of hp) (dps_of hd al), fun xs => by rw [PyData.depth]; exact Nat.succ_le_succ (deep_all hd.deep xs)⟩
theorem dp_tup {d : α → PyData} {n : Nat} (hd : DpR K Ra d n) : DpR K (rTup K Ra) (fun xs => .tuple (xs.map d)) (n + 1) := ⟨fun ⟨p, vs, e, hp, al⟩ => by subst e; exact .tup hp (dps_of hd al), fun xs => by rw [PyData.depth]; exact Nat.succ_le_succ (deep_all hd.deep xs)⟩
structure DpA (K : PySem.W.Frag) (S : RA α) (d : α → List PyData) (n : Nat) : Prop where
  dp : ∀ {F : Hp} {vs : List V} {a : α}, S.r F vs a → DpAll K F vs (d a)
  deep : ∀ a, PyData.depthAll (d a) ≤ n
theorem dpa_nil : DpA K aNil (fun _ => []) 0 := ⟨fun h => by subst h; exact .nil, fun _ => by simp [PyData.depthAll]⟩
theorem dpa_cons {d : α → PyData} {ds : β → List PyData} {S : RA β} {n m : Nat} (h : DpR K Ra d n) (hs : DpA K S ds m) : DpA K (aCons Ra S) (fun a => d a.1 :: ds a.2) (max n m) := ⟨fun ⟨v, ws, e, r, t⟩ => by subst e; exact .cons (h.dp r) (hs.dp t), fun a => by
  rw [PyData.depthAll]
  have := h.deep a.1
  have := hs.deep a.2
  omega⟩
theorem dp_tx {S : RA α} {ds : α → List PyData} {n : Nat} (h : DpA K S ds n) : DpR K (rTx K S) (fun a => .tuple (ds a)) (n + 1) := ⟨fun ⟨p, vs, e, hp, r⟩ => by subst e; exact .tup hp (h.dp r), fun a => by rw [PyData.depth]; exact Nat.succ_le_succ (h.deep a)⟩
def SO (μ : Md) (E : EV Γ) (to : TO) (m : Γ → M (Option Int)) : Prop := ∀ (k : Cn) (F H : Hp) (σ : L2.St) (ρ : Γ) (c : Nat) (Q : Option Int → Hp → Prop), Wo k F H c → EI k E F H σ ρ → (m ρ).wp c (fun o c' => ∀ F' H', ExtX k.p F H F' H' → Wo k F' H' c' → Q o H') (XP μ k) → to σ H Q
theorem so_none : SO μ E tNoPart fun _ => .ret none := fun k F H σ ρ c Q w e q => q F H (ExtX.refl w.sub) w
theorem so_some {te : TE} {m : Γ → M Int} (h : SE μ E rInt te m) : SO μ E (tPart te) fun ρ => (m ρ).bind fun i => .ret (some i) := fun k F H σ ρ c Q w e q => h k F H σ ρ c _ w e (wp_imp q fun i c1 z v F1 H1 x1 w1 r => ⟨i, r, z F1 H1 x1 w1⟩)
def SlN (μ : Md) (r : V → Option Int → Option Int → Hp → VK → Prop) (Ra : Rp α) (R : Rp γ) (mf : α → Option Int → Option Int → M (List γ)) : Prop := ∀ (k : Cn) (F H : Hp) (c : Nat) (x : V) (a : α) (lo hi : Option Int) (Q : VK), Wo k F H c → Ra.r F x a → (mf a lo hi).wp c (VN k F H R Q) (XP μ k) → r x lo hi H Q
theorem n_sl {r : V → Option Int → Option Int → Hp → VK → Prop} {te : TE} {tl th : TO} {m : Γ → M α} {ml mh : Γ → M (Option Int)} {mf : α → Option Int → Option Int → M (List γ)} (hr : SlN μ r Ra R mf) (he : SE μ E Ra te m) (hl : SO μ E tl ml) (hh : SO μ E th mh) :
    SN μ E R (tSl r te tl th) fun ρ => (m ρ).bind fun a => (ml ρ).bind fun lo => (mh ρ).bind fun hi => mf a lo hi := fun k F H σ ρ c Q w e h =>
  he k F H σ ρ c _ w e (wp_imp h fun a c1 q v F1 H1 x1 w1 r1 => hl k F1 H1 σ ρ c1 _ w1 (e.step x1) (wp_imp q fun lo c2 q F2 H2 x2 w2 => hh k F2 H2 σ ρ c2 _ w2 (e.step (x1.trans x2)) (wp_imp q fun hi c3 q F3 H3 x3 w3 =>
    hr k F3 H3 c3 v a lo hi Q w3 (Ra.st (x2.fz.trans x3.fz) r1) (wp_imp q fun _ _ z => VN.ext ((x1.trans x2).trans x3) z))))
def cutL (xs : List α) (lo hi : Option Int) : List α := (xs.drop (HT.sIx xs.length 0 lo)).take (HT.sIx xs.length xs.length hi - HT.sIx xs.length 0 lo)
theorem All2.cut {f : V → α → Prop} {vs : List V} {xs : List α} (h : All2 f vs xs) (lo hi : Option Int) : All2 f (cutV vs lo hi) (cutL xs lo hi) := by
  unfold cutV cutL
  rw [h.len]
  exact (h.drop _).take _
theorem sl_L : SlN μ (rSlL K) (rLs Ra) Ra fun xs lo hi => .ret (cutL xs lo hi) := fun k F H c x xs lo hi Q w ⟨p, vs, e, hp, al⟩ q => ⟨p, vs, e, .of (w.sub _ _ hp), fun l n => VN.newL w q n (al.cut lo hi)⟩
theorem o_catL : OpN μ rCat (rLs Ra) (rLs Ra) Ra fun xs ys => .need (xs.length + ys.length ≤ sizeLine) (.ret (xs ++ ys)) := fun k F H c x y xs ys Q w ⟨p, vs, e, hp, al⟩ ⟨p2, vs2, e2, hp2, al2⟩ q =>
  ⟨p, p2, vs, vs2, e, e2, w.sub _ _ hp, w.sub _ _ hp2, by rw [al.len, al2.len]; exact q.1, fun l n => VN.newL w q.2 n (al.append al2)⟩
theorem o_addS : OpS μ (fun x y H Q => ∃ i j, x = .str i ∧ y = .str j ∧ i.length + j.length ≤ sizeLine ∧ Q (.str (i ++ j)) H) rStr rStr rStr fun a b => .need (a.length + b.length ≤ sizeLine) (.ret (a ++ b)) := fun k F H c x y a b Q w r r2 q => ⟨a, b, r, r2, q.1, VP.now w q.2 rfl⟩
structure FlR (R : Rp α) [DecidableEq α] : Prop where
  fl : ∀ {F : Hp} {v : V} {a : α}, R.r F v a → flatV v = true
  eq : ∀ {F : Hp} {v w : V} {a b : α}, R.r F v a → R.r F w b → eqV v w = decide (a = b)
theorem fl_str : FlR rStr := ⟨fun h => by subst h; rfl, fun {_ _ _ a b} h k => by subst h k; show (a == b) = decide (a = b); by_cases z : a = b <;> simp [z]⟩
theorem in_all [DecidableEq α] (fl : FlR Ra) {F : Hp} {v : V} {a : α} (h : Ra.r F v a) {vs : List V} {xs : List α} (al : All2 (Ra.r F) vs xs) : vs.all flatV = true ∧ inV v vs = decide (a ∈ xs) := by
  induction al with
  | nil => exact ⟨rfl, by simp [inV]⟩
  | @cons u b us bs hu _ ih =>
    refine ⟨by rw [List.all_cons, fl.fl hu, ih.1]; rfl, ?_⟩
    show (eqV u v || inV v us) = decide (a ∈ b :: bs)
    rw [ih.2, fl.eq hu h]
    by_cases z : b = a
    · subst z; simp
    · simp [z, Ne.symm z]
theorem o_notIn [DecidableEq α] (fl : FlR Ra) {Rl : Rp (List α)} (hl : ∀ {F H : Hp} {v : V} {xs : List α}, Same F H → Rl.r F v xs → ∃ p vs, v = .ref p ∧ (SqL K H p vs ∨ SqT K H p vs) ∧ All2 (Ra.r F) vs xs) : OpS μ (rIn K true) Ra Rl rBl fun a xs => .ret (!decide (a ∈ xs)) := fun k F H c x y a xs Q w r r2 q => by
  obtain ⟨p, vs, e, hp, al⟩ := hl w.sub r2
  obtain ⟨h1, h2⟩ := in_all fl r al
  exact ⟨p, vs, e, hp, fl.fl r, h1, VP.now w q (by show V.bl _ = V.bl _; rw [if_pos rfl, h2])⟩
theorem sq_tup {F H : Hp} {v : V} {xs : List α} (s : Same F H) (h : (rTup K Ra).r F v xs) : ∃ p vs, v = .ref p ∧ (SqL K H p vs ∨ SqT K H p vs) ∧ All2 (Ra.r F) vs xs := by
  obtain ⟨p, vs, e, hp, al⟩ := h
  exact ⟨p, vs, e, .inr (same_seqT s hp), al⟩
theorem tyL {p : Addr} {vs : List V} {H : Hp} (h : H p = some (.lst vs)) : tyV K "list" (.ref p) H := .inl ⟨rfl, vs, .of h⟩
theorem s_append {i : Nat} {g : Γ → List α} {put : Γ → List α → Γ} {te : TE} {m : Γ → M α} (hm : ModS E i Ra g put) (he : SE μ E Ra te m) :
    SS μ E E El R (tDrop (tBM K "list" rAppend (tVar i) (tCons te tNil))) fun ρ => (m ρ).bind fun a => .need ((g ρ).length < sizeLine) (.ret (.nx (put ρ (g ρ ++ [a])))) := fun k F H σ ρ c D w e h => by
  obtain ⟨p, vs, h1, h2, h3, h4⟩ := hm.get e.r
  obtain ⟨_, f0, n0, np⟩ := E.has e.r h4
  refine ⟨.ref p, h1, tyL h2, he k F H σ ρ c _ w e (wp_imp h fun a c1 ⟨q1, q⟩ v F1 H1 x1 w1 r1 => ?_)⟩
  have hp1 := x1.hp p _ np h2
  have f1 : F1 p = none := (x1.old p (some_ne h2)).trans f0
  have al := h3.imp fun _ _ g => Ra.st x1.fz g
  refine ⟨p, vs, v, rfl, rfl, hp1, by rw [h3.len]; exact q1, q F1 _ σ x1.fz (w1.mod n0 f1) ⟨hm.mod (E.step x1 e.r) e.nd h1 (al.snoc r1), e.nd⟩⟩
theorem s_appendPop {i j : Nat} {g g' : Γ → List α} {put put' : Γ → List α → Γ} {ti : TE} {mi : Γ → M Int} (hm : ModS E i Ra g put) (hm' : ModS E j Ra g' put') (hgg : ∀ ρ xs, g (put' ρ xs) = g ρ) (hi : SE μ E rInt ti mi) :
    SS μ E E El R (tDrop (tBM K "list" rAppend (tVar i) (tCons (tBM K "list" rPopAt (tVar j) (tCons ti tNil)) tNil))) fun ρ => (mi ρ).bind fun n => .need ((g' ρ).length ≤ 2 ^ 62 ∧ 0 ≤ n) (.bind (.the (g' ρ)[n.toNat]?) fun a => .need ((g ρ).length < sizeLine) (.ret (.nx (put (put' ρ ((g' ρ).eraseIdx n.toNat)) (g ρ ++ [a]))))) := fun k F H σ ρ c D w e h => by
  obtain ⟨p0, vs0, h01, h02, h03, h04⟩ := hm.get e.r
  obtain ⟨p, vs, h1, h2, h3, h4⟩ := hm'.get e.r
  obtain ⟨_, f0, n0, np⟩ := E.has e.r h4
  refine ⟨.ref p0, h01, tyL h02, .ref p, h1, tyL h2, hi k F H σ ρ c _ w e (wp_imp h fun n c1 ⟨⟨q1, q2⟩, a, ea, q3, q⟩ v F1 H1 x1 w1 r1 => ?_)⟩
  have hp1 := x1.hp p _ np h2
  have f1 : F1 p = none := (x1.old p (some_ne h2)).trans f0
  have al := h3.imp fun _ _ g => Ra.st x1.fz g
  obtain ⟨u, hu, ru⟩ := al.get ea
  have hn : n.toNat < (g' ρ).length := (List.getElem?_eq_some_iff.mp ea).1
  have sq : seqIndex? n vs.length = some n.toNat := seqIndex_of q2 (by rw [h3.len]; omega)
  have e1 : EI k E F1 (upd H1 p (.lst (vs.eraseIdx n.toNat))) σ (put' ρ ((g' ρ).eraseIdx n.toNat)) := ⟨hm'.mod (E.step x1 e.r) e.nd h1 (al.erase _), e.nd⟩
  have w2 := w1.mod (o := .lst (vs.eraseIdx n.toNat)) n0 f1
  refine ⟨p, vs, n, n.toNat, u, rfl, by rw [r1], hp1, by omega, by omega, sq, hu, ?_⟩
  obtain ⟨p2, vs2, g1, g2, g3, g4⟩ := hm.get e1.r
  obtain ⟨_, f2, n2, _⟩ := E.has e1.r g4
  rw [h01] at g1
  obtain rfl : p0 = p2 := by cases g1; rfl
  rw [hgg] at g3
  refine ⟨p0, vs2, u, rfl, rfl, g2, by rw [g3.len]; exact q3, q F1 _ σ x1.fz (w2.mod n2 f2) ⟨hm.mod e1.r e.nd h01 (g3.snoc ru), e.nd⟩⟩
def SV (μ : Md) (E : EV Γ) (S : SR α) (te : TE) (m : Γ → M α) : Prop := ∀ (k : Cn) (F H : Hp) (σ : L2.St) (ρ : Γ) (c : Nat) (Q : VK), Wo k F H c → EI k E F H σ ρ →
  (m ρ).wp c (fun a c' => ∀ v F' H', ExtX k.p F H F' H' → Wo k F' H' c' → S.r k.p k.H0 F' H' (some v) a → (∀ D, S.own (some v) = some D → H D = none) → Q v H') (XP μ k) → te σ H Q
theorem sv_e {te : TE} {m : Γ → M α} (h : SE μ E Ra te m) : SV μ E (sVal Ra) te m := fun k F H σ ρ c Q w e q => h k F H σ ρ c Q w e (wp_imp q fun _ _ z v F' H' x w' r => z v F' H' x w' ⟨v, rfl, r⟩ fun _ z => nomatch z)
theorem sv_n {te : TE} {m : Γ → M (List α)} (h : SN μ E Ra te m) : SV μ E (sOwn Ra) te m := fun k F H σ ρ c Q w e q => h k F H σ ρ c Q w e (wp_imp q fun _ _ z D vs F' H' x w' n n0 hD f t => z _ F' H' x w' ⟨D, vs, rfl, hD, t, f, n0, w'.np n0⟩ fun D' z => by cases z; exact n)
theorem s_parV {S : SR α} {T : SR β} {i j : Nat} {ta tb : TE} {ma : Γ → M α} {mb : Γ → M β} {put : Γ → α → Γ'} {put' : Γ' → β → Γ''} (ha : SV μ E S ta ma) (hb : SV μ E T tb mb) (hp : PutS E i S E' put) (hp' : PutS E' j T E'' put') :
    SS μ E E'' El R (tPar i j (tCons ta (tCons tb tNil))) fun ρ => (ma ρ).bind fun a => (mb ρ).bind fun b => .ret (.nx (put' (put ρ a) b)) := fun k F H σ ρ c D w e h =>
  ha k F H σ ρ c _ w e (wp_imp h fun a c1 q v F1 H1 x1 w1 r1 o1 => hb k F1 H1 σ ρ c1 _ w1 (e.step x1) (wp_imp q fun b c2 q u F2 H2 x2 w2 r2 o2 => by
    have e2 := (e.step x1).step x2
    have r1' := S.step x2 r1
    have e3 : EI k E' F2 H2 (σ.set i (some v)) (put ρ a) := ⟨hp.put e2.r r1', hp.nd e2.nd fun D' z y => absurd (o1 D' z) (E.has e.r y).1⟩
    refine ⟨v, u, rfl, q F2 H2 _ (x1.fz.trans x2.fz) w2 ⟨hp'.put e3.r r2, hp'.nd e3.nd fun D' z y => ?_⟩⟩
    have n1 := o2 D' z
    rcases hp.sub y with y | y
    · exact absurd n1 ((E.has (e.step x1).r y).1)
    · exact absurd n1 (S.has r1 y).1))
theorem s_aug {i : Nat} {f : Int → Int → Int} {te : TE} {me : Γ → M Int} {g : Γ → Int} {put : Γ → Int → Γ} (hg : GetS E i (sVal rInt) g) (he : SE μ E rInt te me) (hp : PutS E i (sVal rInt) E put) : SS μ E E El R (tAug i te (ipI f)) fun ρ => (me ρ).bind fun a => .ret (.nx (put ρ (f (g ρ) a))) := fun k F H σ ρ c D w e h => by
  obtain ⟨o, h1, v, rfl, r⟩ := hg.get e.r
  refine ⟨v, h1, he k F H σ ρ c _ w e (wp_imp h fun a c1 q u F1 H1 x1 w1 r1 => ?_)⟩
  have e1 := e.step x1
  exact ⟨g ρ, a, r, r1, q F1 H1 _ x1.fz w1 ⟨hp.put e1.r ⟨_, rfl, rfl⟩, hp.nd e1.nd fun _ z => nomatch z⟩⟩
theorem e_lenO {i : Nat} {g : Γ → List α} {put : Γ → List α → Γ} (hm : ModS E i Ra g put) : SE μ E rInt (tCB (fun xs H Q => ∃ x n, xs = [x] ∧ LenV K x H n ∧ Q (.int n) H) (tCons (tVar i) tNil)) fun ρ => .ret ((g ρ).length : Int) := fun k F H σ ρ c Q w e q => by
  obtain ⟨p, vs, h1, h2, h3, h4⟩ := hm.get e.r
  exact ⟨.ref p, h1, .ref p, (g ρ).length, rfl, .inl ⟨vs, .of h2, h3.len.symm⟩, VP.now w q rfl⟩
end
end PF
set_option maxHeartbeats 400000
namespace PF
open PySem PySem.Spec PyProof.Rows L2 SlX
namespace M
section
variable {α β γ Γ Γ' Δ : Type} {c : Nat} {Q : α → Nat → Prop} {X : Er → Prop}
theorem thn_nx {f : Γ → M (Ct Γ' Δ β)} {ρ : Γ} : thnK f (.nx ρ) = f ρ := id rfl
theorem thn_rt {f : Γ → M (Ct Γ' Δ β)} {b : β} : thnK f (.rt b) = .ret (.rt b) := id rfl
theorem thn_bk {f : Γ → M (Ct Γ' Δ β)} {d : Δ} : thnK f (.bk d) = .ret (.bk d) := id rfl
theorem thn_ct {f : Γ → M (Ct Γ' Δ β)} {d : Δ} : thnK f (.ct d) = .ret (.ct d) := id rfl
theorem fin_rt {b : β} : finK (Γ := Γ) (.rt b) = .ret b := id rfl
theorem finN_rt {b : Unit} : finNK (Γ := Γ) (.rt b) = .ret b := id rfl
theorem finN_nx {ρ : Γ} : finNK (.nx ρ) = .ret () := id rfl
theorem wk {m : M α} {Q Q' : α → Nat → Prop} (h : m.wp c Q X) (k : ∀ a d, Q a d → Q' a d) : m.wp c Q' X := m.mono c k (fun _ z => z) h
def FK (I : Γ → Nat → Prop) (Q : Ct Γ Δ β → Nat → Prop) : Ct Γ Γ β → Nat → Prop
  | .nx ρ, d => I ρ d
  | .ct ρ, d => I ρ d
  | .bk ρ, d => Q (.nx ρ) d
  | .rt b, d => Q (.rt b) d
theorem FK_nx {I : Γ → Nat → Prop} {Q : Ct Γ Δ β → Nat → Prop} {ρ : Γ} {d : Nat} : FK I Q (.nx ρ) d = I ρ d := id rfl
theorem FK_ct {I : Γ → Nat → Prop} {Q : Ct Γ Δ β → Nat → Prop} {ρ : Γ} {d : Nat} : FK I Q (.ct ρ) d = I ρ d := id rfl
theorem FK_bk {I : Γ → Nat → Prop} {Q : Ct Γ Δ β → Nat → Prop} {ρ : Γ} {d : Nat} : FK I Q (.bk ρ) d = Q (.nx ρ) d := id rfl
theorem FK_rt {I : Γ → Nat → Prop} {Q : Ct Γ Δ β → Nat → Prop} {b : β} {d : Nat} : FK I Q (.rt b) d = Q (.rt b) d := id rfl
theorem forM_inv {xs : List α} {f : α → Γ → M (Ct Γ Γ β)} {Q : Ct Γ Δ β → Nat → Prop} (I : Nat → Γ → Nat → Prop) {ρ : Γ} (h0 : I 0 ρ c)
    (hs : ∀ i a ρ c, xs[i]? = some a → I i ρ c → (f a ρ).wp c (fun k d => FK (I (i + 1)) Q k d) X) (hd : ∀ ρ c, I xs.length ρ c → Q (.nx ρ) c) : (M.forM (Δ := Δ) xs f ρ).wp c Q X := by
  induction xs generalizing ρ c I with
  | nil => rw [forM_nil]; exact hd ρ c h0
  | cons x xs ih =>
    rw [forM_cons]
    show (f x ρ).wp c (fun k d => (forK (fun ρ' => M.forM (Δ := Δ) xs f ρ') k).wp d Q X) X
    refine wk (hs 0 x ρ c rfl h0) fun k d z => ?_
    have go : ∀ ρ', I 1 ρ' d → (M.forM (Δ := Δ) xs f ρ').wp d Q X := fun ρ' z => ih (fun i => I (i + 1)) z (fun i a ρ c h => hs (i + 1) a ρ c (by simpa using h)) hd
    cases k with
    | nx ρ' => exact go ρ' z
    | ct ρ' => exact go ρ' z
    | bk ρ' => exact z
    | rt b => exact z
theorem lcM_inv {xs : List α} {f : α → M (Option β)} {Q : List β → Nat → Prop} (I : Nat → List β → Nat → Prop) (h0 : I 0 [] c)
    (hs : ∀ i a ys c, xs[i]? = some a → I i ys c → (f a).wp c (fun o d => I (i + 1) (ys ++ o.toList) d) X) (hd : ∀ ys c, I xs.length ys c → Q ys c) : (M.lcM xs f).wp c Q X := by
  have gen : ∀ (xs : List α) (I : Nat → List β → Nat → Prop) (ys : List β) (c : Nat) (Q : List β → Nat → Prop), I 0 ys c → (∀ i a ys c, xs[i]? = some a → I i ys c → (f a).wp c (fun o d => I (i + 1) (ys ++ o.toList) d) X) →
      (∀ zs c, I xs.length (ys ++ zs) c → Q zs c) → (M.lcM xs f).wp c Q X := by
    intro xs
    induction xs with
    | nil => intro I ys c Q h0 hs hd; rw [lcM_nil]; exact hd [] c (by simpa using h0)
    | cons x xs ih =>
      intro I ys c Q h0 hs hd
      rw [lcM_cons]
      show (f x).wp c (fun o d => (M.lcM xs f).wp d (fun zs e => Q (o.toList ++ zs) e) X) X
      refine wk (hs 0 x ys c rfl h0) fun o d z => ?_
      refine ih (fun i => I (i + 1)) (ys ++ o.toList) d _ z (fun i a ys c h => hs (i + 1) a ys c (by simpa using h)) fun zs e h => ?_
      exact hd _ e (by rw [← List.append_assoc]; exact h)
  exact gen xs I [] c Q h0 hs fun zs c h => hd zs c (by simpa using h)
theorem lcM_map {xs : List α} {f : α → M (Option β)} {g : α → β} {Q : List β → Nat → Prop} (hs : ∀ a ∈ xs, ∀ Q : Option β → Nat → Prop, Q (some (g a)) c → (f a).wp c Q X) (hq : Q (xs.map g) c) : (M.lcM xs f).wp c Q X := by
  refine lcM_inv (fun i ys d => d = c ∧ ys = (xs.take i).map g) ⟨rfl, by simp⟩ (fun i a ys d h ⟨e, ey⟩ => ?_) fun ys d ⟨e, ey⟩ => ?_
  · subst e
    refine hs a (List.mem_of_getElem? h) _ ⟨rfl, ?_⟩
    have hl := (List.getElem?_eq_some_iff.mp h)
    obtain ⟨hl, ha⟩ := hl
    rw [List.take_succ, h, ey]; simp
  · subst e
    rw [List.take_length] at ey
    rw [ey]; exact hq
theorem lcM_filter {xs : List α} {f : α → M (Option β)} {g : α → Option β} {Q : List β → Nat → Prop} (hs : ∀ a ∈ xs, ∀ Q : Option β → Nat → Prop, Q (g a) c → (f a).wp c Q X) (hq : Q (xs.filterMap g) c) : (M.lcM xs f).wp c Q X := by
  refine lcM_inv (fun i ys d => d = c ∧ ys = (xs.take i).filterMap g) ⟨rfl, by simp⟩ (fun i a ys d h ⟨e, ey⟩ => ?_) fun ys d ⟨e, ey⟩ => ?_
  · subst e
    refine hs a (List.mem_of_getElem? h) _ ⟨rfl, ?_⟩
    rw [List.take_succ, h, ey]
    simp only [Option.toList, List.filterMap_append]
    cases e : g a <;> simp [e]
  · subst e
    rw [List.take_length] at ey
    rw [ey]; exact hq
end
end M
theorem rng_len {lo hi : Int} : (rng lo hi).length = (hi - lo).toNat := by rw [rng_eq, List.length_map, List.length_range]
theorem rng_mem {lo hi a : Int} : a ∈ rng lo hi ↔ lo ≤ a ∧ a < hi := by
  rw [rng_eq]
  simp only [List.mem_map, List.mem_range]
  constructor
  · rintro ⟨i, hi, rfl⟩; omega
  · rintro ⟨h1, h2⟩; exact ⟨(a - lo).toNat, by omega, by omega⟩
namespace M
def W {α : Type} (m : M α) (c : Nat) (Q : α → Nat → Prop) (X : Er → Prop) : Prop := m.wp c Q X
section
variable {α β γ Γ Γ' Δ : Type} {c : Nat} {Q : α → Nat → Prop} {X : Er → Prop}
theorem to_W {m : M α} : m.wp c Q X = W m c Q X := id rfl
theorem ret_W {a : α} : W (M.ret a) c Q X = Q a c := id rfl
theorem bind_W {m : M β} {f : β → M α} : W (M.bind m f) c Q X = W m c (fun a d => W (f a) d Q X) X := id rfl
theorem need_W {p : Prop} {m : M α} : W (M.need p m) c Q X = (p ∧ W m c Q X) := id rfl
theorem the_W {o : Option α} : W (M.the o) c Q X = ∃ a, o = some a ∧ Q a c := id rfl
theorem ifb_W {b : Bool} {m n : M α} : W (M.ifb b m n) c Q X = if b = true then W m c Q X else W n c Q X := id rfl
theorem anyOf_W {P : α → Prop} : W (M.anyOf P) c Q X = ∀ a, P a → Q a c := id rfl
theorem still_W {m : M α} : W (M.still m) c Q X = W m 0 (fun a _ => Q a c) X := id rfl
theorem roll_W {t : Int} {Q : Int → Nat → Prop} : W (M.roll t) c Q X = (c < 2 ^ 60 ∧ 0 < t ∧ Bd 9000 t ∧ ∀ r, 0 ≤ r → r < t → Q r (c + 1)) := id rfl
theorem pick_W {xs : List α} : W (M.pick xs) c Q X = (c < 2 ^ 60 ∧ 0 < xs.length ∧ xs.length ≤ 1000 ∧ ∀ x ∈ xs, Q x (c + 1)) := id rfl
theorem thn_W {m : M (Ct Γ Δ β)} {f : Γ → M (Ct Γ' Δ β)} {Q : Ct Γ' Δ β → Nat → Prop} : W (M.thn m f) c Q X = W m c (fun k d => W (thnK f k) d Q X) X := id rfl
theorem fin_W {m : M (Ct Γ Unit β)} {Q : β → Nat → Prop} : W (M.fin m) c Q X = W m c (fun k d => W (finK k) d Q X) X := id rfl
theorem finN_W {m : M (Ct Γ Unit Unit)} {Q : Unit → Nat → Prop} : W (M.finN m) c Q X = W m c (fun k d => W (finNK k) d Q X) X := id rfl
theorem none_W : W (M.none : M α) c Q X = False := id rfl
end
end M
end PF
set_option maxHeartbeats 4000000
set_option exponentiation.threshold 20000
namespace PF
open PySem PySem.Spec PyProof.Rows L2 SlX
def spDice (K : PySem.W.Frag) : Sp := fun vs H Q _ => ∃ (a : Addr) (ns : List Int) (s : Int), vs = [.ref a, .int s] ∧ SqL K H a (ns.map V.int) ∧ ns.length ≤ 100 ∧ 0 ≤ s ∧ s ≤ 100 ∧ ∀ p H', Same H H' → H p = none → Dice p H' 0 → Q (.ref p) H'
def spRoll : Sp := fun vs H Q _ => ∃ (p : Addr) (t : Int) (c : Nat), vs = [.ref p, .int t] ∧ Dice p H c ∧ c < 2 ^ 64 ∧ 0 < t ∧ Bd 9000 t ∧ ∀ r H', 0 ≤ r → r < t → SameB p H H' → Dice p H' (c + 1) → Q (.int r) H'
def spPick : Sp := fun vs H Q _ => ∃ (p l : Addr) (xs : List V) (c : Nat), vs = [.ref p, .ref l] ∧ Dice p H c ∧ c < 2 ^ 64 ∧ H l = some (.lst xs) ∧ l ≠ p ∧ 0 < xs.length ∧ xs.length ≤ 1000 ∧ ∀ v H', v ∈ xs → SameB p H H' → Dice p H' (c + 1) → Q v H'
theorem bd_le {i : Int} {n : Nat} (k : Nat) (h : i.natAbs ≤ k) (l : k < 2 ^ n) : Bd n i := Nat.lt_of_le_of_lt h l
theorem bd_mod {i j : Int} {n : Nat} (h : Bd n j) (j0 : 0 < j) : Bd n (i.fmod j) := by
  have e : i.fmod j = i % j := Int.fmod_eq_emod_of_nonneg i (by omega)
  have h1 := Int.emod_nonneg i (show j ≠ 0 by omega)
  have h2 := Int.emod_lt_of_pos i j0
  rw [e]
  exact h.le (by omega)
theorem fmod_range {i j : Int} (j0 : 0 < j) : 0 ≤ i.fmod j ∧ i.fmod j < j := by
  rw [Int.fmod_eq_emod_of_nonneg i (by omega)]
  exact ⟨Int.emod_nonneg i (by omega), Int.emod_lt_of_pos i j0⟩
theorem fdiv_abs {i j : Int} (i0 : 0 ≤ i) (j0 : 0 < j) : 0 ≤ i.fdiv j ∧ (i.fdiv j).natAbs ≤ i.natAbs := by
  rw [Int.fdiv_eq_ediv_of_nonneg i (by omega)]
  have h1 := Int.ediv_nonneg i0 (show 0 ≤ j by omega)
  have h2 := Int.ediv_le_self j i0
  omega
section
variable {P : Program} {w : World} {K : PySem.W.Frag} {mg : Str → Option Value} {base : Heap} {f : Addr} {fd : FuncData}
theorem sc__law_dice : FnScope ["_law_script", "_law_spot", "_law_cell", "_law_left"] ["_law_script", "_law_spot"] (defScope (topS 21)) := ⟨rfl, rfl, rfl, by decide +kernel, rfl, by decide +kernel, by decide +kernel⟩
theorem ok_dice (F : Fun K "_law_dice" "_law_dice" (topS 21) f fd) (fr : Free mg) : FnOk P w K mg base CX0 2 f fd ["_law_script", "_law_spot"] (spDice K) := by
  refine F.ok sc__law_dice (fun vs H Q E ⟨_, _, _, e, _⟩ => by rw [e]; rfl) (fun cdv A outer s H vs Q E hr h => ⟨_, (pss_cons (ps_set (i := 2) sc__law_dice.nd rfl (by first | exact Or.inl rfl | exact Or.inr rfl) (pe_ifExp (pt_cmpR op_lt (pv 1) (pe_callB call_len (by rfl) fr.b_len (by decide +kernel) (pa_cons (pv 0) pa_nil)) (nomark _)) (pe_callTy call_int1 (by rfl) fr.b_int (by decide +kernel) (pa_cons (pe_ix (ix_list : IxR _ (rIxL K)) (pv 0) (pv 1) (fun _ _ => rfl)) pa_nil)) (pe_op op_add (pe_op op_mulX pe_int (pv 1)) pe_int)))
  (pss_cons (ps_set (i := 3) sc__law_dice.nd rfl (by first | exact Or.inl rfl | exact Or.inr rfl) (pe_op op_modN (pe_callB (call_max2 rfl) (by rfl) fr.b_max (by decide +kernel) (pa_cons pe_int (pa_cons (pe_op op_sub (pe_callB call_abs (by rfl) fr.b_abs (by decide +kernel) (pa_cons (pv 2) pa_nil)) (pe_op op_pow pe_int pe_int)) pa_nil))) (pe_op op_mulX (pe_op op_pow pe_int pe_int) (pe_op op_pow pe_int pe_int))))
  (pss_one (ps_ret (pe_lst (pa_cons (pv 3) (pa_cons (pe_op op_add (pe_op op_add (pe_op op_add (pe_op op_mulX (pe_op op_modN (pe_callB call_abs (by rfl) fr.b_abs (by decide +kernel) (pa_cons (pv 2) pa_nil)) pe_int) pe_int) (pe_op op_mulX pe_int (pv 1))) (pe_op op_mulX pe_int (pe_callTy call_int1 (by rfl) fr.b_int (by decide +kernel) (pa_cons (pe_cmpR op_lt (pv 2) pe_int (nomark _)) pa_nil)))) pe_int) (pa_cons pe_int pa_nil)))))))), ?_⟩)
  obtain ⟨a, ns, s, rfl, hS, hl, h0, h100, q⟩ := h
  have bs : Bd 10 s := bd_sm (by omega) (by decide)
  have rest : ∀ c : Int, tSeq (tAsg (tOp (rI (fun _ j => j ≠ 0) fun i j => .int (i.fmod j)) (tCB (fun xs H Q => ∃ i j, xs = [.int i, .int j] ∧ Q (.int (if j > i then j else i)) H) (tCons (tC (.int 0)) (tCons (tOp (rI0 fun i j => .int (i - j)) (tCB (fun xs H Q => ∃ i, xs = [.int i] ∧ Q (.int (if i < 0 then -i else i)) H) (tCons (tVar 2) tNil)) (tOp (rI CPow fun i j => .int (i ^ j.toNat)) (tC (.int 10)) (tC (.int 16)))) tNil)))
      (tOp (rI CMulX fun i j => .int (i * j)) (tOp (rI CPow fun i j => .int (i ^ j.toNat)) (tC (.int 10)) (tC (.int 60))) (tOp (rI CPow fun i j => .int (i ^ j.toNat)) (tC (.int 10)) (tC (.int 60))))) (gName 3))
      (tRet (tLst (tCons (tVar 3) (tCons (tOp (rI0 fun i j => .int (i + j)) (tOp (rI0 fun i j => .int (i + j)) (tOp (rI0 fun i j => .int (i + j)) (tOp (rI CMulX fun i j => .int (i * j)) (tOp (rI (fun _ j => j ≠ 0) fun i j => .int (i.fmod j)) (tCB (fun xs H Q => ∃ i, xs = [.int i] ∧ Q (.int (if i < 0 then -i else i)) H) (tCons (tVar 2) tNil)) (tC (.int 1152921504606846883))) (tC (.int 47)))
        (tOp (rI CMulX fun i j => .int (i * j)) (tC (.int 809)) (tVar 1))) (tOp (rI CMulX fun i j => .int (i * j)) (tC (.int 31)) (tCB (fun xs H Q => (∃ i, xs = [.int i] ∧ Q (.int i) H) ∨ ∃ k, xs = [.bl k] ∧ Q (.int (if k then 1 else 0)) H) (tCons (tOp (rI0 fun i j => .bl (decide (i < j))) (tVar 2) (tC (.int 0))) tNil)))) (tC (.int 7))) (tCons (tC (.int 0)) tNil)))))
      { nx := fun _ H' => Q .non H', rt := Q } [some (.ref a), some (.int s), some (.int c), none] H := fun c => by
    have m1 : Bd 200 ((10 : Int) ^ 60) := bd_le (10 ^ 60) (by decide) (by decide)
    have nz : (10 : Int) ^ 60 * 10 ^ 60 ≠ 0 := by decide
    refine ⟨_, rfl, _, rfl, _, _, rfl, rfl, ⟨by decide, by decide, by decide⟩, _, _, rfl, rfl, _, _, rfl, _, _, rfl, rfl, ⟨by decide, by decide, by decide⟩, _, _, rfl, rfl, ⟨by decide, by decide, by decide⟩, _, _, rfl, rfl, m1.mulx m1 (by decide), _, _, rfl, rfl, nz, ?_⟩
    have km : Bd 61 (((if c < 0 then -c else c) : Int).fmod 1152921504606846883) := bd_mod (bd_le 1152921504606846883 (by decide) (by decide)) (by decide)
    have b47 : Bd 10 47 := bd_sm (by decide) (by decide)
    have b809 : Bd 10 809 := bd_sm (by decide) (by decide)
    have b31 : Bd 10 31 := bd_sm (by decide) (by decide)
    have bk : ∀ k : Bool, Bd 10 (if k then 1 else 0 : Int) := fun k => by cases k <;> exact bd_sm (by decide) (by decide)
    refine ⟨_, rfl, _, rfl, _, rfl, _, _, rfl, rfl, (by decide : (1152921504606846883 : Int) ≠ 0), _, _, rfl, rfl, km.mulx b47 (by decide), _, rfl, _, _, rfl, rfl, b809.mulx bs (by decide), _, _, rfl, rfl, _, rfl, _, _, rfl, rfl, .inr ⟨_, rfl, _, _, rfl, rfl, b31.mulx (bk _) (by decide), _, _, rfl, rfl, _, _, rfl, rfl, ?_⟩⟩
    refine ⟨by show 3 ≤ sizeLine; decide, fun p hp => q p _ (same_upd hp) hp ⟨_, _, _, upd_same, ?_, ?_, ?_, by decide, by decide⟩⟩
    · exact (fmod_range (by decide)).1
    · exact (bd_mod (m1.mul m1) (by decide)).mono (by decide)
    · refine Bd.add (n := 199) ?_ (bd_sm (by decide) (by decide)) rfl
      refine Bd.add (n := 198) ?_ ((b31.mul (bk _)).mono (by decide)) rfl
      exact Bd.add (n := 197) ((km.mul b47).mono (by decide)) ((b809.mul bs).mono (by decide)) rfl
  refine ⟨_, rfl, _, rfl, _, (ns.map V.int).length, rfl, Or.inl ⟨_, hS, rfl⟩, _, _, rfl, rfl, _, rfl, ite_dec (fun c => ?_) fun c => ?_⟩
  · rw [List.length_map] at c
    obtain ⟨j, rfl⟩ : ∃ j : Nat, s = (j : Int) := ⟨s.toNat, by omega⟩
    have hj : j < ns.length := by omega
    have g : (ns.map V.int)[j]? = some (.int ns[j]) := by rw [List.getElem?_map, List.getElem?_eq_getElem hj]; rfl
    exact ⟨_, rfl, _, rfl, a, _, _, _, rfl, rfl, hS, atI_nat g, .inl ⟨_, rfl, rest _⟩⟩
  · have b67 : Bd 10 67 := bd_sm (by decide) (by decide)
    exact ⟨_, rfl, _, _, rfl, rfl, b67.mulx bs (by decide), _, _, rfl, rfl, rest _⟩
theorem sc__law_roll : FnScope ["_law_dice_here", "_law_total", "_law_found", "_law_one", "_law_two"] ["_law_dice_here", "_law_total"] (defScope (topS 22)) := ⟨rfl, rfl, rfl, by decide +kernel, rfl, by decide +kernel, by decide +kernel⟩
theorem ok_roll (F : Fun K "_law_roll" "_law_roll" (topS 22) f fd) (fr : Free mg) : FnOk P w K mg base CX0 2 f fd ["_law_dice_here", "_law_total"] spRoll := by
  refine F.ok sc__law_roll (fun vs H Q E ⟨_, _, _, e, _⟩ => by rw [e]; rfl) (fun cdv A outer s H vs Q E hr h => ⟨_, (pss_cons (ps_if (pt_cmpR op_gt (pe_ix (ix_list : IxR _ (rIxL K)) (pv 0) pe_int (fun _ _ => rfl)) pe_int (nomark _)) (pss_cons (ps_set (i := 2) sc__law_roll.nd rfl (by first | exact Or.inl rfl | exact Or.inr rfl) (pe_op op_modN (pe_callTy call_int1 (by rfl) fr.b_int (by decide +kernel) (pa_cons (pe_ix (ix_list : IxR _ (rIxL K)) (pv 0) pe_int (fun _ _ => rfl)) pa_nil)) (pv 1)))
  (pss_cons (ps_asg (pe_op op_fdivZ (pe_ix (ix_list : IxR _ (rIxL K)) (pv 0) pe_int (fun _ _ => rfl)) (pv 1)) (pg_sub (pv 0) pe_int set_list))
  (pss_one (ps_ret (pv 2))))) pss_nil)
  (pss_cons (ps_asg (pe_op op_add (pe_ix (ix_list : IxR _ (rIxL K)) (pv 0) pe_int (fun _ _ => rfl)) pe_int) (pg_sub (pv 0) pe_int set_list))
  (pss_cons (ps_set (i := 3) sc__law_roll.nd rfl (by first | exact Or.inl rfl | exact Or.inr rfl) (pe_op op_modN (pe_callTy call_int1 (by rfl) fr.b_int (by decide +kernel) (pa_cons (pe_op op_add (pe_ix (ix_list : IxR _ (rIxL K)) (pv 0) pe_int (fun _ _ => rfl)) (pe_op op_mulX pe_int (pe_ix (ix_list : IxR _ (rIxL K)) (pv 0) pe_int (fun _ _ => rfl)))) pa_nil)) pe_int))
  (pss_cons (ps_set (i := 4) sc__law_roll.nd rfl (by first | exact Or.inl rfl | exact Or.inr rfl) (pe_op op_add (pe_op op_mulX (pe_op op_modN (pe_callTy call_int1 (by rfl) fr.b_int (by decide +kernel) (pa_cons (pe_op op_add (pe_op op_mulX (pv 3) (pv 3)) (pe_op op_mulX pe_int (pe_ix (ix_list : IxR _ (rIxL K)) (pv 0) pe_int (fun _ _ => rfl)))) pa_nil)) pe_int) pe_int) (pv 3)))
  (pss_one (ps_ret (pe_op op_modN (pe_callTy call_int1 (by rfl) fr.b_int (by decide +kernel) (pa_cons (pe_op op_fdivZ (pv 4) pe_int) pa_nil)) (pv 1)))))))), ?_⟩)
  obtain ⟨p, t, c, rfl, ⟨d0, d1, d2, hp, p0, b0, b1, p2, l2⟩, hc, t0, bt, q⟩ := h
  have g0 : ∀ x y z : V, atI [x, y, z] 0 = some x := fun x y z => atI_nat (j := 0) rfl
  have g1 : ∀ x y z : V, atI [x, y, z] 1 = some y := fun x y z => atI_nat (j := 1) rfl
  have g2 : ∀ x y z : V, atI [x, y, z] 2 = some z := fun x y z => atI_nat (j := 2) rfl
  refine ⟨_, rfl, p, _, _, _, rfl, rfl, .of hp, g0 _ _ _, _, _, rfl, rfl, _, rfl, ite_dec (fun c0 => ?_) fun c0 => ?_⟩
  · obtain ⟨r1, r2⟩ := fmod_range (i := d0) t0
    obtain ⟨r3, r4⟩ := fdiv_abs p0 t0
    refine ⟨_, rfl, p, _, _, _, rfl, rfl, .of hp, g0 _ _ _, .inl ⟨_, rfl, _, rfl, _, _, rfl, rfl, (by omega : t ≠ 0), _, rfl, p, _, _, _, rfl, rfl, .of hp, g0 _ _ _, _, rfl, _, _, rfl, rfl, bt.dvz (by omega) (Nat.le_refl _), _, rfl, p, _, _, 0, rfl, rfl, hp, rfl, _, rfl, ?_⟩⟩
    refine q _ _ r1 r2 (SameB.refl p H).upd ⟨_, _, _, upd_same, r3, b0.le r4, b1, p2, by omega⟩
  refine ⟨_, rfl, p, _, _, _, rfl, rfl, .of hp, g2 _ _ _, _, _, rfl, rfl, _, rfl, p, _, _, 2, rfl, rfl, hp, rfl, ?_⟩
  have hq : upd H p (.lst ([V.int d0, .int d1, .int d2].set 2 (.int (d2 + 1)))) p = some (.lst [.int d0, .int d1, .int (d2 + 1)]) := upd_same
  generalize hG : upd H p (.lst ([V.int d0, .int d1, .int d2].set 2 (.int (d2 + 1)))) = G at hq ⊢
  have sG : SameB p H G := by rw [← hG]; exact (SameB.refl p H).upd
  have bd2 : Bd 100 (d2 + 1) := bd_le (2 ^ 64) (by omega) (by decide)
  have bk : Bd 26 32452843 := bd_le 32452843 (by decide) (by decide)
  have b97 : Bd 10 97 := bd_sm (by decide) (by decide)
  refine ⟨_, rfl, p, _, _, _, rfl, rfl, .of hq, g1 _ _ _, _, rfl, p, _, _, _, rfl, rfl, .of hq, g2 _ _ _, _, _, rfl, rfl, bk.mulx bd2 (by decide), _, _, rfl, rfl, .inl ⟨_, rfl, _, _, rfl, rfl, (by decide : (2305843009213693951 : Int) ≠ 0), ?_⟩⟩
  have bo := bd_mod (i := d1 + 32452843 * (d2 + 1)) (j := 2305843009213693951) (n := 62) (bd_le 2305843009213693951 (by decide) (by decide)) (by decide)
  have bt2 := fun i : Int => bd_mod (i := i) (j := 2305843009213693921) (n := 62) (bd_le 2305843009213693921 (by decide) (by decide)) (by decide)
  have b7 : Bd 23 7368787 := bd_le 7368787 (by decide) (by decide)
  refine ⟨_, rfl, _, rfl, _, _, rfl, rfl, bo.mulx bo (by decide), _, rfl, p, _, _, _, rfl, rfl, .of hq, g2 _ _ _, _, _, rfl, rfl, b97.mulx bd2 (by decide), _, _, rfl, rfl, .inl ⟨_, rfl, _, _, rfl, rfl, (by decide : (2305843009213693921 : Int) ≠ 0), _, _, rfl, rfl, (bt2 _).mulx b7 (by decide), _, rfl, _, _, rfl, rfl, ?_⟩⟩
  have b6 : Bd 17 65536 := bd_le 65536 (by decide) (by decide)
  refine ⟨_, rfl, _, _, rfl, rfl, b6.dvz (by decide) (by decide), .inl ⟨_, rfl, _, rfl, _, _, rfl, rfl, (by omega : t ≠ 0), ?_⟩⟩
  exact q _ _ (fmod_range t0).1 (fmod_range t0).2 sG ⟨_, _, _, hq, p0, b0, b1, by omega, by omega⟩
theorem sc__law_pick : FnScope ["_law_dice_here", "_law_items"] ["_law_dice_here", "_law_items"] (defScope (topS 23)) := ⟨rfl, rfl, rfl, by decide +kernel, rfl, by decide +kernel, by decide +kernel⟩
theorem ok_pick (F : Fun K "_law_pick" "_law_pick" (topS 23) f fd) (fr : Free mg) (G__law_roll : GD P w K mg base "_law_roll" 2 spRoll) : FnOk P w K mg base CX0 3 f fd ["_law_dice_here", "_law_items"] spPick := by
  refine F.ok sc__law_pick (fun vs H Q E ⟨_, _, _, _, e, _⟩ => by rw [e]; rfl) (fun cdv A outer s H vs Q E hr h => ⟨_, (pss_one (ps_ret (pe_ix (ix_list : IxR _ (rIxL K)) (pv 1) (pe_c1 G__law_roll (hr.mono (by decide)) (pa_cons (pv 0) (pa_cons (pe_callB call_len (by rfl) fr.b_len (by decide +kernel) (pa_cons (pv 1) pa_nil)) pa_nil))) (fun _ _ => rfl)))), ?_⟩)
  obtain ⟨p, l, xs, c, rfl, hd, hc, hl, ne, h0, h1, q⟩ := h
  refine ⟨_, rfl, _, rfl, _, rfl, _, xs.length, rfl, .inl ⟨_, .of hl, rfl⟩, p, _, c, rfl, hd, hc, by omega, bd_le 1000 (by omega) (by decide), fun r H' r0 r1 s1 hd' => ?_⟩
  obtain ⟨j, rfl⟩ : ∃ j : Nat, r = (j : Int) := ⟨r.toNat, by omega⟩
  have hj : j < xs.length := by omega
  exact ⟨l, xs, _, _, rfl, rfl, .of (s1 _ _ ne hl), atI_nat (List.getElem?_eq_getElem hj), q _ _ (List.getElem_mem hj) s1 hd'⟩
end
end PF
set_option maxHeartbeats 1000000
namespace PF
open PySem PySem.Spec PyProof.Rows L2 SlX
structure GS (P : Program) (w : World) (K : PySem.W.Frag) (mg : Str → Option Value) (base : Heap) (C : Addr) (k : Nat) (sp : Sp) : Prop where
  ex : ∃ g, PySem.W.findIn K (.ref C) "__str__" = some (some (.ref g)) ∧ PySem.W.isFn K (.ref g) = true ∧ FnR P w K mg base CX0 k g sp
section
variable {κ α β : Type} [DecidableEq κ]
def dput (l : List (κ × α)) (k : κ) (a : α) : List (κ × α) := if (l.any fun p => decide (p.1 = k)) = true then l.map (fun p => if p.1 = k then (p.1, a) else p) else l ++ [(k, a)]
def dget (l : List (κ × α)) (k : κ) : Option α := (l.find? fun p => decide (p.1 = k)).map (·.2)
end
structure KyR {κ : Type} (R : Rp κ) (kf : κ → Key) : Prop where
  v : ∀ {F : Hp} {v : V} {k : κ}, R.r F v k → v = kV (kf k)
  inj : ∀ {a b : κ}, kf a = kf b → a = b
inductive AllD {κ α : Type} (kf : κ → Key) (f : V → α → Prop) : List (Key × V) → List (κ × α) → Prop where
  | nil : AllD kf f [] []
  | cons {v : V} {k : κ} {a : α} {kvs : List (Key × V)} {l : List (κ × α)} (h : f v a) (t : AllD kf f kvs l) : AllD kf f ((kf k, v) :: kvs) ((k, a) :: l)
section
variable {κ α : Type} {kf : κ → Key} {f g : V → α → Prop} {kvs : List (Key × V)} {l : List (κ × α)}
theorem AllD.imp (h : AllD kf f kvs l) (k : ∀ v n, f v n → g v n) : AllD kf g kvs l := by
  induction h with
  | nil => exact .nil
  | cons h _ ih => exact .cons (k _ _ h) ih
theorem AllD.len (h : AllD kf f kvs l) : kvs.length = l.length := by
  induction h with
  | nil => rfl
  | cons h _ ih => rw [List.length_cons, List.length_cons, ih]
theorem AllD.snoc (h : AllD kf f kvs l) {v : V} {k : κ} {a : α} (r : f v a) : AllD kf f (kvs ++ [(kf k, v)]) (l ++ [(k, a)]) := by
  induction h with
  | nil => exact .cons r .nil
  | cons h _ ih => exact .cons h ih
variable [DecidableEq κ]
theorem AllD.any (inj : ∀ {a b : κ}, kf a = kf b → a = b) (h : AllD kf f kvs l) (k : κ) : (kvs.any fun p => decide (p.1 = kf k)) = (l.any fun p => decide (p.1 = k)) := by
  induction h with
  | nil => rfl
  | @cons v k2 a _ _ h _ ih =>
    rw [List.any_cons, List.any_cons, ih]
    by_cases c : k2 = k
    · subst c; simp
    · rw [decide_eq_false fun z => c (inj z), decide_eq_false c]
theorem AllD.repl (inj : ∀ {a b : κ}, kf a = kf b → a = b) (h : AllD kf f kvs l) (k : κ) {v : V} {a : α} (r : f v a) : AllD kf f (kvs.map fun p => if p.1 = kf k then (p.1, v) else p) (l.map fun p => if p.1 = k then (p.1, a) else p) := by
  induction h with
  | nil => exact .nil
  | @cons u k2 b _ _ h _ ih =>
    rw [List.map_cons, List.map_cons]
    by_cases c : k2 = k
    · subst c
      rw [if_pos rfl, if_pos rfl]
      exact .cons r ih
    · rw [if_neg (fun z => c (inj z)), if_neg c]
      exact .cons h ih
theorem AllD.put (inj : ∀ {a b : κ}, kf a = kf b → a = b) (h : AllD kf f kvs l) (k : κ) {v : V} {a : α} (r : f v a) : AllD kf f (putK kvs (kf k) v) (dput l k a) := by
  unfold putK dput
  rw [h.any inj k]
  by_cases c : (l.any fun p => decide (p.1 = k)) = true
  · rw [if_pos c, if_pos c]
    exact h.repl inj k r
  · rw [if_neg c, if_neg c]
    exact h.snoc r
theorem AllD.get (inj : ∀ {a b : κ}, kf a = kf b → a = b) (h : AllD kf f kvs l) (k : κ) : (∃ v a, valV kvs (kf k) = some v ∧ dget l k = some a ∧ f v a) ∨ (valV kvs (kf k) = none ∧ dget l k = none) := by
  induction h with
  | nil => exact .inr ⟨rfl, rfl⟩
  | @cons u k2 b kvs' l' h _ ih =>
    by_cases c : k2 = k
    · subst c
      exact .inl ⟨u, b, valV_pos rfl, by simp [dget], h⟩
    · have e1 : valV ((kf k2, u) :: kvs') (kf k) = valV kvs' (kf k) := valV_neg fun z => c (inj z)
      have e2 : dget ((k2, b) :: l') k = dget l' k := by simp [dget, List.find?_cons, c]
      rw [e1, e2]
      exact ih
end
section
variable {Γ Γ' Γ'' Δ α β γ δ κ : Type} {μ : Md} {E : EV Γ} {E' : EV Γ'} {El : EV Δ} {Ra : Rp α} {Rb : Rp β} {R : Rp γ} {Rk : Rp κ} {kf : κ → Key} {K : PySem.W.Frag} [DecidableEq κ]
def signs (z : Str) : List Str := z.cps.toList.map fun c => (⟨#[c]⟩ : Str)
theorem i_str {te : TE} {m : Γ → M Str} (h : SE μ E rStr te m) : SI μ E rStr (iStr te) fun ρ => (m ρ).bind fun z => .ret (signs z) := fun k F H σ ρ c W w e q =>
  h k F H σ ρ c _ w e (wp_imp q fun z c1 q v F1 H1 x1 w1 r => ⟨z, r, q _ F1 H1 x1 w1 fun i F' H' s1 s2 => by
    refine ⟨fun a ha => ?_, fun hi => ?_⟩
    · unfold signs at ha
      rw [List.getElem?_map] at ha
      cases hc : z.cps.toList[i]? with
      | none => rw [hc] at ha; cases ha
      | some c =>
        rw [hc] at ha
        cases ha
        have hc' : z.cps[i]? = some c := by simpa using hc
        exact ⟨(Array.getElem?_eq_some_iff.mp hc').1, fun x H'' ⟨e1, c2, e2, e3⟩ => by
          rw [hc'] at e2
          cases e2
          subst e1
          exact ⟨F', ExtX.refl s2, e3⟩⟩
    · show z.cps.size ≤ i
      unfold signs at hi
      simpa using hi⟩)
end
end PF
set_option maxHeartbeats 3200000
namespace PF
open PySem PySem.Spec PyProof.Rows L2 SlX
def ddS (xs : List Str) : List Str := xs.foldl (fun l x => if x ∈ l then l else l ++ [x]) []
def SetS (P : Program) (w : World) (h : Heap) (a : Addr) (xs : List Str) : Prop := h.SetOf (PySem.strKind P w) a (fun k => decide (k ∈ xs)) (ddS xs).length
theorem SetS.at {P : Program} {w : World} {h h' : Heap} {a : Addr} {xs : List Str} (z : SetS P w h a xs) (k : ∀ o, h.get? a = some o → h'.get? a = some o) : SetS P w h' a xs := by
  obtain ⟨o, es, ep, t, e, r⟩ := z
  exact ⟨o, es, ep, t, k o e, r⟩
end PF
set_option maxHeartbeats 1000000
namespace PF
open PySem PySem.Spec PyProof.Rows L2 SlX
section
variable {Γ α β γ : Type} {μ : Md} {E : EV Γ} {K : PySem.W.Frag} {Ra : Rp α}
theorem e_join {Rl : Rp (List Str)} {to te : TE} {mo : Γ → M Str} {me : Γ → M (List Str)} (hl : ∀ {F H : Hp} {v : V} {ys : List Str}, Same F H → Rl.r F v ys → ∃ p, v = .ref p ∧ (SqL K H p (ys.map V.str) ∨ SqT K H p (ys.map V.str))) (ho : SE μ E rStr to mo) (he : SE μ E Rl te me) :
    SE μ E rStr (tM1 (fun x xs H Q => ∃ a p, ∃ ys : List Str, x = .str a ∧ xs = [.ref p] ∧ (SqL K H p (ys.map V.str) ∨ SqT K H p (ys.map V.str)) ∧ (ys.map (·.length)).sum + ys.length * a.length ≤ 16777216 ∧ Q (.str (Txt.join a ys)) H) to te)
      fun ρ => (mo ρ).bind fun a => (me ρ).bind fun ys => .need ((ys.map (·.length)).sum + ys.length * a.length ≤ 16777216) (.ret (Txt.join a ys)) := fun k F H σ ρ c Q w e h =>
  ho k F H σ ρ c _ w e (wp_imp h fun a c1 q v F1 H1 x1 w1 r1 => ⟨⟨a, r1⟩, he k F1 H1 σ ρ c1 _ w1 (e.step x1) (wp_imp q fun ys c2 ⟨q1, q⟩ u F2 H2 x2 w2 r2 => by
    obtain ⟨p, ev, hp⟩ := hl w2.sub r2
    exact ⟨a, p, ys, r1, by rw [ev], hp, q1, q _ F2 H2 (x1.trans x2) w2 rfl⟩)⟩)
theorem jn_ls {F H : Hp} {v : V} {ys : List Str} (s : Same F H) (r : (rLs rStr).r F v ys) : ∃ p, v = .ref p ∧ (SqL K H p (ys.map V.str) ∨ SqT K H p (ys.map V.str)) := by
  obtain ⟨p, ev, h⟩ := str_ls (K := K) s r
  exact ⟨p, ev, .inl h⟩
def inStr (a b : Str) : Bool := !(Builtin.Str.occurrences b a 0 b.length 1).isEmpty
theorem o_inStr : OpS μ (fun x y H Q => ∃ i j, x = .str i ∧ y = .str j ∧ Q (.bl (!(Builtin.Str.occurrences j i 0 j.length 1).isEmpty)) H) rStr rStr rBl fun a b => .ret (inStr a b) := fun k F H c x y a b Q w hx hy q => ⟨a, b, hx, hy, VP.now w q rfl⟩
structure TyR (K : PySem.W.Frag) (R : Rp α) (t : Value) : Prop where
  ty : ∀ {F H : Hp} {v : V} {a : α}, Same F H → R.r F v a → TyY K H v t
theorem tr_str : TyR K rStr (.type "str") := ⟨fun _ h => by subst h; exact .x (.base (.str _))⟩
theorem tr_tup : TyR K (rTup K Ra) (.type "tuple") := ⟨fun s ⟨p, vs, e, h, _⟩ => by
  subst e
  rcases same_seqT s h with (h | ⟨o, h⟩) | ⟨o, its, n, h, c, _⟩
  · exact .x (.base (.tup h))
  · exact .x (.fTuple h)
  · exact .x (.kTuple h c)⟩
theorem c_isi {t u : Value} {c : V} {b : Bool} (ht : TyR K Ra t) (hc : ClsV c u) (hk : PySem.W.kitOne K t u = some b) {Rc : Rp Unit} (hr : ∀ {F : Hp} {v : V}, Rc.r F v () → v = c) : CaS μ (rIsiU K) (a2 Ra Rc) rBl fun _ => .ret b := fun k F H n vs a Q w r q => by
  obtain ⟨v, x, e, r1, r2⟩ := two r
  exact ⟨v, c, t, u, b, by rw [e, hr r2], hc, ht.ty w.sub r1, hk, VP.now w q rfl⟩
end
structure GQ (P : Program) (w : World) (K : PySem.W.Frag) (mg : Str → Option Value) (base : Heap) (m : String) (C : Addr) (k : Nat) (sp : Sp) : Prop where
  ex : ∃ g, PySem.W.findIn K (.ref C) m = some (some (.ref g)) ∧ PySem.W.isFn K (.ref g) = true ∧ FnR P w K mg base CX0 k g sp
structure SlR1 {α : Type} (R : Rp α) (C : Addr) : Prop where
  at_ : ∀ {F : Hp} {v : V} {a : α}, R.r F v a → ∃ p dx vs, v = .ref p ∧ Slt F p C dx vs
section
variable {Γ Γ' Γ'' Δ α β γ δ κ : Type} {μ : Md} {E : EV Γ} {E' : EV Γ'} {El : EV Δ} {Ra : Rp α} {Rb : Rp β} {R : Rp γ} {Rk : Rp κ} {kf : κ → Key} {K : PySem.W.Frag}
structure NnR (R : Rp α) : Prop where
  nn : ∀ {F : Hp} {v : V} {a : α}, R.r F v a → v ≠ .non
end
structure RV (Γ : Type) where
  r : Hp → (Nat → Option (Option V)) → Γ → Prop
  st : ∀ {F F' : Hp} {f : Nat → Option (Option V)} {a : Γ}, Same F F' → r F f a → r F' f a
  cg : ∀ {F : Hp} {f g : Nat → Option (Option V)} {a : Γ}, (∀ i v, f i = some (some v) → g i = some (some v)) → r F f a → r F g a
structure VGet {Γ α : Type} (E : RV Γ) (i : Nat) (R : Rp α) (g : Γ → α) : Prop where
  get : ∀ {F : Hp} {f : Nat → Option (Option V)} {a : Γ}, E.r F f a → ∃ v, f i = some (some v) ∧ R.r F v (g a)
structure VPut {Γ Γ' β : Type} (E : RV Γ) (i : Nat) (R : Rp β) (E' : RV Γ') (put : Γ → β → Γ') : Prop where
  put : ∀ {F : Hp} {f g : Nat → Option (Option V)} {a : Γ} {b : β} {y : V}, E.r F f a → R.r F y b → g i = some (some y) → (∀ j v, j ≠ i → f j = some (some v) → g j = some (some v)) → E'.r F g (put a b)
def SelfAt {Γ : Type} (C : Addr) (U : RV Γ) (p : Option Addr) (H0 F H : Hp) (D dx : Addr) (a : Γ) : Prop :=
  dx ≠ D ∧ F D = none ∧ H0 D = none ∧ H0 dx = none ∧ p ≠ some D ∧ p ≠ some dx ∧
  ∃ vs, U.r F (fun i => vs[i]?) a ∧ ((H D = some (.ins C dx []) ∧ H dx = some (.own D) ∧ F dx = none ∧ vs = []) ∨ (H D = some (SlO D C dx vs) ∧ H dx = some (.xd [])))
structure PlE {Γ : Type} (E : EV Γ) : Prop where
  upd : ∀ {p : Option Addr} {H0 F H : Hp} {σ : L2.St} {ρ : Γ} {D : Addr} {x : HO}, (∃ o, H D = some o ∧ lsty o = false) → E.r p H0 F H σ ρ → E.r p H0 F (L2.upd H D x) σ ρ
  fz : ∀ {p : Option Addr} {H0 F F' H : Hp} {σ : L2.St} {ρ : Γ}, Same F F' → (∀ D, F D = none → F' D ≠ none → ∃ o, H D = some o ∧ lsty o = false) → E.r p H0 F H σ ρ → E.r p H0 F' H σ ρ
theorem SelfAt.slt {Γ : Type} {C : Addr} {U : RV Γ} {p : Option Addr} {H0 F H : Hp} {D dx : Addr} {a : Γ} (h : SelfAt C U p H0 F H D dx a) : ∃ vs, Slt H D C dx vs ∧ U.r F (fun i => vs[i]?) a := by
  obtain ⟨_, _, _, _, _, _, vs, k, h⟩ := h
  rcases h with ⟨h1, _, _, h4⟩ | ⟨h1, h2⟩
  · exact ⟨vs, .inl ⟨h1, h4⟩, k⟩
  · exact ⟨vs, .inr ⟨h1, h2⟩, k⟩
theorem SelfAt.put {Γ Γ' β : Type} {C : Addr} {U : RV Γ} {U' : RV Γ'} {i : Nat} {R : Rp β} {put : Γ → β → Γ'} {k : Cn} {F H : Hp} {c : Nat} {D dx : Addr} {a : Γ} {b : β} {y : V} (hv : VPut U i R U' put) (w : Wo k F H c) (h : SelfAt C U k.p k.H0 F H D dx a) (r : R.r F y b) :
    ∃ vs, Slt H D C dx vs ∧ Wo k F (slH H D C dx (SlX.putS i y vs)) c ∧ SelfAt C U' k.p k.H0 F (slH H D C dx (SlX.putS i y vs)) D dx (put a b) := by
  obtain ⟨n, f, h1, h2, p1, p2, vs, kk, hh⟩ := h
  have kv : U'.r F (fun j => (SlX.putS i y vs)[j]?) (put a b) := hv.put kk r (putS_get i y vs) fun j v nj e => (putS_ne nj).mpr e
  have fin : Wo k F (slH H D C dx (SlX.putS i y vs)) c := by
    rcases hh with ⟨a1, a2, a3, a4⟩ | ⟨a1, a2⟩
    · exact (w.mod (o := .xd []) h2 a3).mod h1 f
    · have e : slH H D C dx (SlX.putS i y vs) = upd H D (SlO D C dx (SlX.putS i y vs)) := by
        funext b'
        unfold slH
        by_cases z : b' = D
        · rw [z, upd_same, upd_same]
        · rw [upd_ne z, upd_ne z]
          by_cases z2 : b' = dx
          · rw [z2, upd_same, a2]
          · rw [upd_ne z2]
      rw [e]; exact w.mod h1 f
  have sl : Slt H D C dx vs := by
    rcases hh with ⟨a1, _, _, a4⟩ | ⟨a1, a2⟩
    · exact .inl ⟨a1, a4⟩
    · exact .inr ⟨a1, a2⟩
  exact ⟨vs, sl, fin, n, f, h1, h2, p1, p2, _, kv, .inr ⟨upd_same, by unfold slH; rw [upd_ne n, upd_same]⟩⟩
theorem PlE.slH {Γ : Type} {E : EV Γ} (h : PlE E) {C : Addr} {p : Option Addr} {H0 F H : Hp} {σ : L2.St} {ρ : Γ} {D dx : Addr} {vs vs' : List (Option V)} (n : dx ≠ D) (sl : Slt H D C dx vs) (hd : ∃ o, H dx = some o ∧ lsty o = false) (k : E.r p H0 F H σ ρ) : E.r p H0 F (SlX.slH H D C dx vs') σ ρ := by
  refine h.upd ?_ (h.upd hd k)
  rw [upd_ne (Ne.symm n)]
  rcases sl with ⟨a1, _⟩ | ⟨a1, _⟩
  · exact ⟨_, a1, rfl⟩
  · exact ⟨_, a1, rfl⟩
section
variable {Γ Γ' Δ α β γ Λ Λ' : Type} {μ : Md} {E : EV Γ} {El : EV Δ} {Rb : Rp β} {R : Rp γ} {A C : Addr} {U : RV Λ} {U' : RV Λ'}
structure SlG (Ro : Rp α) (C : Addr) (i : Nat) (Rb : Rp β) (P : α → β → Prop) : Prop where
  get : ∀ {F : Hp} {v : V} {a : α}, Ro.r F v a → ∃ p dx vs x b, v = .ref p ∧ Slt F p C dx vs ∧ vs[i]? = some (some x) ∧ Rb.r F x b ∧ P a b
end
section
variable {Γ Γ' Δ α β γ Λ : Type} {μ : Md} {E : EV Γ} {E' : EV Γ'} {Rb : Rp β} {R : Rp γ} {C : Addr} {U : RV Λ}
structure StI {Λ0 : Type} (C : Addr) (U0 : RV Λ0) (z : Λ0) (S : RA α) (n : Nat) (E : EV Γ) (ρ0 : α → Γ) : Prop where
  v0 : ∀ {F : Hp} {f : Nat → Option (Option V)}, U0.r F f z
  r : St0 S n E ρ0
end
section
variable {Γ : Type} {α β γ δ Λ : Type} {E : EV Γ} {C : Addr} {U : RV Λ} {Ro : Rp α} {Rb : Rp β} {R : Rp γ} {Rd : Rp δ} {K : PySem.W.Frag}
structure OdT (K : PySem.W.Frag) (C : Addr) : Prop where
  k : ∀ t ∈ (["int", "bool", "str", "NoneType", "list", "tuple", "dict"] : List String), PySem.W.kitOne K (.type t) (.ref C) = some false ∧ PySem.W.notFirst K C (.type t) = true
end
structure GCm (P : Program) (w : World) (K : PySem.W.Frag) (mg : Str → Option Value) (base : Heap) (C : Addr) (m : Str) (k : Nat) (sp : Sp) : Prop where
  ex : ∃ mc p g, ClX.CRead K C mc ∧ ClX.CMet K C mc m p g ∧ FnR P w K mg base CX0 k g sp
def rTyV (t : String) : Rp Unit := ⟨fun _ v _ => v = .ty t, fun _ h => h⟩
theorem e_tyV {Γ : Type} {μ : Md} {E : EV Γ} {t : String} : SE μ E (rTyV t) (tC (.ty t)) fun _ => .ret () := e_c fun _ => rfl
section
variable {α β γ : Type} {K : PySem.W.Frag} {Ra : Rp α} {Rb : Rp β}
theorem c_isiT {t : Value} {u : String} {b : Bool} (ht : TyR K Ra t) (hk : PySem.W.kitOne K t (.type u) = some b) : CaS md0 (rIsiU K) (a2 Ra (rTyV u)) rBl fun _ => .ret b := c_isi ht (.ty u) hk fun h => h
end
theorem hu65 {A : Around} {k : Nat} (hr : Room k A) : A.units + 65 < cLine := by have := hr.un; omega
theorem s_never {Γ Γ' Δ β : Type} {μ : Md} {E : EV Γ} {E' : EV Γ'} {El : EV Δ} {R : Rp β} {t : TS} : SS μ E E' El R t fun _ => M.none := fun k F H σ ρ c D w e h => h.elim
def rD0 : Rp Unit := ⟨fun F v _ => ∃ p, v = .ref p ∧ F p = some (.dK []), fun s ⟨p, e, h⟩ => ⟨p, e, s _ _ h⟩⟩
section
variable {Γ α β γ : Type} {μ : Md} {E : EV Γ} {K : PySem.W.Frag} {Ra : Rp α} {Rb : Rp β}
theorem e_dnew : SE μ E rD0 (fun σ H Q => ∀ d, H d = none → Q (.ref d) (upd H d (.dK []))) fun _ => .ret () := fun k F H σ ρ c Q w e q => fun d n => VP.newT w q n fun _ => ⟨d, rfl, upd_same⟩
theorem tr_d0 : TyR K rD0 (.type "dict") := ⟨fun s ⟨p, e, h⟩ => by subst e; exact .x (.base (.dK (s _ _ h)))⟩
theorem all2_rep {f : V → α → Prop} {vs : List V} {xs : List α} (h : All2 f vs xs) : ∀ n : Nat, All2 f (List.replicate n vs).flatten (List.replicate n xs).flatten
  | 0 => .nil
  | n + 1 => by
    rw [List.replicate_succ, List.replicate_succ, List.flatten_cons, List.flatten_cons]
    exact h.append (all2_rep h n)
theorem o_rep : OpN μ rRep (rLs Ra) rInt Ra fun xs k => .need (-(2 ^ 63) ≤ k ∧ k < 2 ^ 63 ∧ xs.length * k.toNat ≤ sizeLine) (.ret (List.replicate k.toNat xs).flatten) := fun k F H c x y xs n Q w ⟨p, vs, e, hp, al⟩ hy ⟨⟨q1, q2, q3⟩, q⟩ =>
  ⟨p, n, vs, e, hy, w.sub _ _ hp, q1, q2, by rw [al.len]; exact q3, fun l nl => VN.newL w q nl (all2_rep al _)⟩
end
structure ItT (K : PySem.W.Frag) (C fi fl : Addr) : Prop where
  it : PySem.W.findIn K (.ref C) "__iter__" = some (some (.ref fi))
  itF : PySem.W.isFn K (.ref fi) = true
  ln : PySem.W.findIn K (.ref C) "__len__" = some (some (.ref fl))
  lnF : PySem.W.isFn K (.ref fl) = true
structure GLs (P : Program) (w : World) (K : PySem.W.Frag) (mg : Str → Option Value) (base : Heap) (C : Addr) (k : Nat) (spI spL : Sp) : Prop where
  ex : ∃ fi fl, ItT K C fi fl ∧ FnR P w K mg base CX0 k fi spI ∧ FnR P w K mg base CX0 k fl spL
end PF
set_option maxHeartbeats 4000000
namespace PF
open PySem PySem.Spec PyProof.Rows L2 SlX
section
variable {Γ : Type} {α β γ : Type} {μ : Md} {E : EV Γ} {Ra : Rp α} {Rb : Rp β} {R : Rp γ} {K : PySem.W.Frag}
theorem e_roll {i : Nat} {g : Γ → Unit} {te : TE} {m : Γ → M Int} (hi : GetS E i sDice g) (he : SE md0 E rInt te m) : SE md0 E rInt (tCall spRoll [] E0 (tCons (tVar i) (tCons te tNil))) fun ρ => (m ρ).bind fun t => M.roll t := fun k F H σ ρ c Q w e h => by
  obtain ⟨o, h1, p, rfl, hp⟩ := hi.get e.r
  refine ⟨.ref p, h1, he k F H σ ρ c _ w e (wp_imp h fun t c1 ⟨q1, q2, q3, q⟩ v F1 H1 x1 w1 r1 => ?_)⟩
  obtain ⟨d1, d0, d2⟩ := w1.dice p hp
  refine ⟨p, t, c1, by rw [r1]; rfl, d2, by omega, q2, q3, fun r H' h1 h2 s d => ?_⟩
  have d2' := d2
  obtain ⟨_, _, _, hd, _⟩ := d2'
  have d' := d
  obtain ⟨_, _, _, hd', _⟩ := d'
  have x2 : ExtX (some p) F1 H1 F1 H' := ⟨Same.refl _, fun b o z => s b o (fun y => by subst y; rw [d1] at z; cases z) (w1.sub b o z), fun b o n _ z => s b o (fun y => n (by rw [y])) z, fun _ _ => rfl, fun b z => by
    by_cases y : b = p
    · subst y; rw [hd']; simp
    · cases zz : H1 b with
      | none => exact absurd zz z
      | some o => rw [s b o y zz]; simp, fun ta p hp => (ta p hp).go (ta p hp).1 (fun o z => s p.1 o ((ta p hp).nd hd rfl) z) (Same.refl _)⟩
  obtain ⟨x3, w3⟩ := w1.callD hp x2 d1 d
  exact q r h1 h2 _ F1 H' (x1.trans x3) w3 rfl
theorem e_pick {i : Nat} {g : Γ → Unit} {tl : TE} {m : Γ → M (List α)} (hi : GetS E i sDice g) (hl : SE md0 E (rLs Ra) tl m) : SE md0 E Ra (tCall spPick [] E0 (tCons (tVar i) (tCons tl tNil))) fun ρ => (m ρ).bind fun t => M.pick t := fun k F H σ ρ c Q w e h => by
  obtain ⟨o, h1, p, rfl, hp⟩ := hi.get e.r
  refine ⟨.ref p, h1, hl k F H σ ρ c _ w e (wp_imp h fun xs c1 ⟨q1, q2, q3, q⟩ v F1 H1 x1 w1 ⟨l, vs, ev, hlF, al⟩ => ?_)⟩
  obtain ⟨d1, d0, d2⟩ := w1.dice p hp
  have len := al.len
  have lp : l ≠ p := fun z => by rw [z, d1] at hlF; cases hlF
  refine ⟨p, l, vs, c1, by rw [ev]; rfl, d2, by omega, w1.sub _ _ hlF, lp, by omega, by omega, fun u H' hu s d => ?_⟩
  have d2' := d2
  obtain ⟨_, _, _, hd, _⟩ := d2'
  have d' := d
  obtain ⟨_, _, _, hd', _⟩ := d'
  have x2 : ExtX (some p) F1 H1 F1 H' := ⟨Same.refl _, fun b o z => s b o (fun y => by subst y; rw [d1] at z; cases z) (w1.sub b o z), fun b o n _ z => s b o (fun y => n (by rw [y])) z, fun _ _ => rfl, fun b z => by
    by_cases y : b = p
    · subst y; rw [hd']; simp
    · cases zz : H1 b with
      | none => exact absurd zz z
      | some o => rw [s b o y zz]; simp, fun ta p hp => (ta p hp).go (ta p hp).1 (fun o z => s p.1 o ((ta p hp).nd hd rfl) z) (Same.refl _)⟩
  obtain ⟨x3, w3⟩ := w1.callD hp x2 d1 d
  obtain ⟨j, hj, ej⟩ := List.getElem_of_mem hu
  have hj2 : j < xs.length := by omega
  obtain ⟨u', hu', r⟩ := al.get (List.getElem?_eq_getElem hj2)
  rw [List.getElem?_eq_getElem hj, ej] at hu'
  cases hu'
  exact q _ (List.getElem_mem hj2) u F1 H' (x1.trans x3) w3 r
end
end PF
set_option maxHeartbeats 1000000
namespace PF
open PySem PySem.Spec PyProof.Rows L2 SlX
section
variable {Γ α β γ : Type} {μ : Md} {E : EV Γ} {Ra : Rp α} {K : PySem.W.Frag}
def SAL (μ : Md) (E : EV Γ) (R : Rp α) (ta : TA) (m : Γ → M (List α)) : Prop := ∀ (k : Cn) (F H : Hp) (σ : L2.St) (ρ : Γ) (c : Nat) (Q : List V → Hp → Prop), Wo k F H c → EI k E F H σ ρ →
  (m ρ).wp c (fun xs c' => ∀ vs F' H', ExtX k.p F H F' H' → Wo k F' H' c' → All2 (R.r F') vs xs → Q vs H') (XP μ k) → ta σ H Q
theorem al_nil : SAL μ E Ra tNil fun _ => .ret [] := fun k F H σ ρ c Q w e h => h [] F H (ExtX.refl w.sub) w .nil
theorem e_tupL {ta : TA} {ma : Γ → M (List α)} (ha : SAL μ E Ra ta ma) : SE μ E (rTup K Ra) (tTup ta) fun ρ => (ma ρ).bind fun xs => .need (xs.length ≤ sizeLine) (.ret xs) := fun k F H σ ρ c Q w e h =>
  ha k F H σ ρ c _ w e (wp_imp h fun xs c1 ⟨hl, q⟩ vs F1 H1 x1 w1 r1 => ⟨by rw [r1.len]; exact hl, fun p np => by
    have x2 := ExtX.new (p := k.p) w1.sub np (.tup vs)
    exact q (.ref p) _ _ (x1.trans x2) (w1.new np _) ⟨p, vs, rfl, .of upd_same, r1.imp fun _ _ g => Ra.st x2.fz g⟩⟩)
end
section
variable {α β κ : Type}
structure ModD {Γ : Type} (E : EV Γ) (i : Nat) (kf : κ → Key) (R : Rp α) (g : Γ → List (κ × α)) (put : Γ → List (κ × α) → Γ) : Prop where
  get : ∀ {p : Option Addr} {H0 F H : Hp} {σ : L2.St} {ρ : Γ}, E.r p H0 F H σ ρ → ∃ D kvs, σ[i]? = some (some (.ref D)) ∧ H D = some (.dK kvs) ∧ AllD kf (R.r F) kvs (g ρ) ∧ D ∈ E.owns σ
  mod : ∀ {p : Option Addr} {H0 F H : Hp} {σ : L2.St} {ρ : Γ} {D : Addr} {kvs : List (Key × V)} {l : List (κ × α)}, E.r p H0 F H σ ρ → (E.owns σ).Nodup → σ[i]? = some (some (.ref D)) → AllD kf (R.r F) kvs l → E.r p H0 F (upd H D (.dK kvs)) σ (put ρ l)
end
section
variable {Γ Γ' Γ'' Δ α β γ δ κ : Type} {μ : Md} {E : EV Γ} {E' : EV Γ'} {E'' : EV Γ''} {El : EV Δ} {Ra : Rp α} {Rb : Rp β} {Rk : Rp κ} {R : Rp γ} {kf : κ → Key} [DecidableEq κ]
structure FzD (E : EV Γ) (i : Nat) (kf : κ → Key) (R : Rp α) (E' : EV Γ') (f : Γ → Γ') : Prop where
  get : ∀ {p : Option Addr} {H0 F H : Hp} {σ : L2.St} {ρ : Γ}, E.r p H0 F H σ ρ → ∃ D kvs, σ[i]? = some (some (.ref D)) ∧ H D = some (.dK kvs) ∧ F D = none ∧ H0 D = none ∧ D ∈ E.owns σ
  put : ∀ {p : Option Addr} {H0 F H : Hp} {σ : L2.St} {ρ : Γ} {D : Addr} {kvs : List (Key × V)} {o : Obj}, E.r p H0 F H σ ρ → (E.owns σ).Nodup → σ[i]? = some (some (.ref D)) → H D = some (.dK kvs) → Same F (upd F D (.frz o (.dK kvs))) → E'.r p H0 (upd F D (.frz o (.dK kvs))) (upd H D (.frz o (.dK kvs))) σ (f ρ)
  ow : ∀ σ, (E'.owns σ).Sublist (E.owns σ)
end
section
variable {Γ α β κ : Type} {μ : Md} {E : EV Γ} {Ra : Rp α} {K : PySem.W.Frag}
theorem o_repT : OpS μ (rRepT K) (rTup K Ra) rInt (rTup K Ra) fun xs k => .need (xs ≠ [] ∧ 2 ≤ k ∧ k ≤ 1000 ∧ xs.length ≤ 1000) (.ret (List.replicate k.toNat xs).flatten) := fun k F H c x y xs n Q w ⟨p, vs, e, hp, al⟩ hy ⟨⟨q1, q2, q3, q4⟩, q⟩ =>
  ⟨p, n, vs, e, hy, same_seqT w.sub hp, (fun z => q1 (by cases al with | nil => rfl | cons _ _ => cases z)), q2, q3, by rw [al.len]; exact q4, fun l nl => by
    have x2 := ExtX.new (p := k.p) w.sub nl (.tup (List.replicate n.toNat vs).flatten)
    exact q (.ref l) _ _ x2 (w.new nl _) ⟨l, _, rfl, .of upd_same, (all2_rep al _).imp fun _ _ g => Ra.st x2.fz g⟩⟩
end
end PF
set_option maxHeartbeats 400000
namespace PF
open PySem PySem.Spec PyProof.Rows L2 SlX
theorem walk_tail {Γ : Type} {E : EV Γ} {ρ0 : Γ} {t : TS} {mb : Γ → M (Ct Unit Unit Bool)} (hb : SS md0 E eNil eNil rBl t mb) {σ : L2.St} {H : Hp} {D : Ends} (he : EI ⟨none, fun _ => none, H⟩ E (fun _ => none) H σ ρ0) (hw : ∀ m, M.fin (mb ρ0) = m → m.wp 0 (fun b _ => b = true) (fun _ => False)) (hD : ∀ H', D.rt (.bl true) H') : t D σ H := by
  refine hb ⟨none, fun _ => none, H⟩ (fun _ => none) H σ ρ0 0 D ⟨(fun _ _ z => nomatch z), ExtX.refl (fun _ _ z => nomatch z), (fun _ e => nomatch e)⟩ he ?_
  refine (mb ρ0).mono 0 (fun t c z => ?_) (fun er z => z.elim) (hw _ rfl)
  cases t with
  | nx _ => exact z.elim
  | rt b =>
    intro v F' H' w r
    have z : b = true := z
    have r : v = .bl b := r
    rw [r, z]
    exact hD H'
  | bk _ => exact z.elim
  | ct _ => exact z.elim
theorem len_succ {α : Type} {τ : List α} {n : Nat} (h : τ.length = n + 1) : ∃ o τ', τ = o :: τ' ∧ τ'.length = n := by
  cases τ with
  | nil => cases h
  | cons o τ => exact ⟨o, τ, rfl, Nat.succ.inj h⟩
theorem ints_all {F : Hp} : ∀ ns : List Int, All2 (rInt.r F) (ns.map V.int) ns
  | [] => .nil
  | n :: ns => .cons rfl (ints_all ns)
theorem ints_of {F : Hp} : ∀ {vs : List V} {ns : List Int}, All2 (rInt.r F) vs ns → vs = ns.map V.int
  | _, _, .nil => rfl
  | _, _, .cons h t => by rw [List.map_cons, ← ints_of t]; congr 1
end PF
set_option maxHeartbeats 4000000
namespace PF
open PySem PySem.Spec PyProof.Rows L2 SlX
namespace M
variable {α β : Type}
def safe (m : M α) : M α := ⟨fun c Q _ => m.wp c Q fun _ => False, fun c _ _ _ _ h _ k => m.mono c h (fun _ z => z) k⟩
def tryM (m : M α) (h : Er → M α) : M α := ⟨fun c Q X => m.wp c Q fun e => (h e).wp c Q X, fun c _ _ _ _ f g k => m.mono c f (fun e z => (h e).mono c f g z) k⟩
def byE (ys ns : List Str) (m : M α) (n : Er → M α) (e : Er) : M α := ⟨fun c Q X => (e.cls ∈ ys ∧ m.wp c Q X) ∨ (e.cls ∈ ns ∧ (n e).wp c Q X), fun c _ _ _ _ f g k => k.imp (fun z => ⟨z.1, m.mono c f g z.2⟩) fun z => ⟨z.1, (n e).mono c f g z.2⟩⟩
end M
structure GX (K : PySem.W.Frag) (mg : Str → Option Value) (x : Str) (C : Addr) : Prop where
  ex : PySem.W.excIn K C [.type "ValueError", .type "Exception", .type "BaseException", .type "object"] "ValueError.__new__" = true
  gl : mg x = some (.ref C)
  kp : PySem.W.keepIn K (.ref C) = true
  sb : PySem.W.subIn K (.ref C) (.type "BaseException") = some true
  ty : PySem.W.typeIn K (.ref C) = some (.type "type")
structure GR (P : Program) (w : World) (K : PySem.W.Frag) (mg : Str → Option Value) (base : Heap) (x : Str) (k : Nat) (sp : Sp) : Prop where
  ex : ∃ f fd ps, mg x = some (.ref f) ∧ PySem.W.keepIn K (.ref f) = true ∧ Binds K fd ps [] ∧ FnOk P w K mg base (L2.CX P w) k f fd ps sp
section
variable {X : Cx} {k m : Nat} {sp : Sp} {x : Str} {p pos : Pos} {e : Expr} {es : List Expr} {t : TA} {W : WX} {C : Addr}
theorem pe_cX (tk : Takes X W) (G : GR X.prog X.w X.K X.mg X.base x k sp) (hr : Room k X.A) (ha : PA X (e :: es) t) (gl : Gl X x := by rfl) (hdb : (x == ("__debug__" : Str)) = false := by decide)
    (he : starEach (e :: es) X.env = (false, eval e X.env) :: starEach es X.env := by rfl) (hpl : (backTo pos (starEach es X.env)).any (·.1) = false := by rfl) : PE X (.Call (.Name x p) (e :: es) [] pos) (tCallS sp (WE W) t) := by
  obtain ⟨f, fd, ps, h1, h2, h3, h4⟩ := G.ex
  exact pe_callS h4 hr gl h1 h2 h3 (fun σ => passAt tk σ) ha hdb he hpl
def tRaise (W : WX) (C : Addr) : TS := fun _ σ H => W (.ref C) none σ H
theorem ps_raiseX {m : Str} {j : Nat} {p2 pos' : Pos} (tk : Takes X W) (G : GX X.K X.mg x C) (hc : X.calm = true := by rfl) (hg : Gl X x := by rfl) (hdb : (x == ("__debug__" : Str)) = false := by decide) : PS X (.Raise (some (.Call (.Name x p) [.Constant (.str m) j p2] [] pos)) none pos') (tRaise W C) :=
  ps_raise hc tk (pmk_own PySem.F.excBase_ValueError G.ex G.gl G.kp (raises_own G.sb G.ty) hg hdb)
end
section
variable {Γ Γ' Γ'' Δ Δ' α β γ δ : Type} {μ : Md} {E : EV Γ} {E' : EV Γ'} {E'' : EV Γ''} {El : EV Δ} {El' : EV Δ'} {Ra : Rp α} {Rb : Rp β} {R : Rp γ} {mg : Str → Option Value} {XE : XK}
theorem se_safe {te : TE} {m : Γ → M α} (h : SE md0 E Ra te m) : SE μ E Ra te fun ρ => (m ρ).safe := fun k F H σ ρ c Q w e q => h k F H σ ρ c Q w e ((m ρ).mono c (fun _ _ z => z) (fun _ z => z.elim) q)
theorem st_safe {tt : TT} {m : Γ → M Bool} (h : ST md0 E tt m) : ST μ E tt fun ρ => (m ρ).safe := fun k F H σ ρ c Q w e q => h k F H σ ρ c Q w e ((m ρ).mono c (fun _ _ z => z) (fun _ z => z.elim) q)
theorem sa_safe {S : RA α} {ta : TA} {m : Γ → M α} (h : SA md0 E S ta m) : SA μ E S ta fun ρ => (m ρ).safe := fun k F H σ ρ c Q w e q => h k F H σ ρ c Q w e ((m ρ).mono c (fun _ _ z => z) (fun _ z => z.elim) q)
theorem ss_safe {ts : TS} {m : Γ → M (Ct Γ' Δ γ)} (h : SS md0 E E' El R ts m) : SS μ E E' El R ts fun ρ => (m ρ).safe := fun k F H σ ρ c D w e q => h k F H σ ρ c D w e ((m ρ).mono c (fun _ _ z => z) (fun _ z => z.elim) q)
structure PlX (E : EV Γ) (E' : EV Γ') (f : Γ → Γ') : Prop where
  r : ∀ {p : Option Addr} {H0 F H : Hp} {σ : L2.St} {ρ : Γ}, E.r p H0 F H σ ρ → E'.r none H F H σ (f ρ)
  ow : ∀ σ, E'.owns σ = []
inductive Exm (mg : Str → Option Value) (K : PySem.W.Frag) (D : Value) (b : Bool) : List Str → Prop
  | nil : Exm mg K D b []
  | cons {x : Str} {C : Addr} {xs : List Str} (g : mg x = some (.ref C)) (h : PySem.W.exmOne K (.ref C) D = some b) (t : Exm mg K D b xs) : Exm mg K D b (x :: xs)
theorem Exm.at {K : PySem.W.Frag} {D : Value} {b : Bool} {xs : List Str} (h : Exm mg K D b xs) {x : Str} (i : x ∈ xs) {cls : Value} (g : mg x = some cls) : PySem.W.exmOne K cls D = some b := by
  induction h with
  | nil => cases i
  | cons g' h' _ ih =>
    rcases List.mem_cons.mp i with rfl | i
    · rw [g'] at g; cases g; exact h'
    · exact ih i
end
end PF
namespace PEI
open PySem PySem.W PySem.Calls PyProof.Rows
structure TailB (B newId i : String) (bm : List Value) : Prop where
  exc : ExcBaseFacts B newId i bm
  kx : KxsFacts B i
  st : StoreFacts B bm "object.__setattr__" "object"
  along : ∀ K : Frag, alongIn K "__init__" bm = some (some (.builtin i))
abbrev tlI : List Value := [.type "IndexError", .type "LookupError", .type "Exception", .type "BaseException", .type "object"]
theorem tb_index : TailB "IndexError" "IndexError.__new__" "IndexError.__init__" tlI := ⟨PySem.F.excBase_IndexError, kxs_IndexError, PySem.F.store_IndexError, fun K => by kernel_rfl⟩
section
open Builtin Builtin.ObjectAttr
variable {prog : Program} {w : World} {A : Around} {E : Value → Shared → Prop} {R : Result → Shared → Prop} {hp : Heap} {g : Array GenState} {d : Drawn} {t : Nat} {os : OsState} {B newId i : String} {bm : List Value}
theorem osa_new (T : TailB B newId i bm) {K : Frag} {name : Str} {tk : Tok} {v : Value} {x C : Addr} {fv : Array Value} {cd : ClassData}
    (X : K.In hp) (hx : hp.get? x = some { cls := .ref C, data := .fields fv }) (hcd : clsIn K C = some cd) (over : excOver K C bm = true) (hh : cd.hasDict = true) (ha : findIn K (.ref C) name = some none)
    (hq : ∀ h2 tk2 dx, (∀ b o, b ≠ x → hp.get? b = some o → h2.get? b = some o) → hp.objs.size ≤ dx → dx ≠ x → h2.get? x = some { cls := .ref C, dict := some dx, data := .fields fv } →
      h2.Ns1 dx (fun y => if y = name then some v else none) → R (.ok (.ret .none)) ⟨h2, g, d, tk2, os⟩) :
    codeAny (model prog w) A (.call (.builtin "object.__setattr__") ⟨[.ref x, .str name tk, v], []⟩) R ⟨hp, g, d, t, os⟩ := by
  have taker : takerIn K C name = some none := by unfold takerIn; rw [ha]; rfl
  refine osa_openX (od := none) (ox := { cls := .ref C, data := .fields fv }) T.st X ⟨hx, rfl, rfl, trivial⟩ over taker fun fresh => ?_
  have lx : x < hp.objs.size := Heap.lt_size hx
  have L : Looks (model prog w) hp (classData C) cd := looks_clsIn X hcd
  have hx1 : (hp.push { cls := .type "dict", data := .dict #[] }).get? x = some { cls := .ref C, data := .fields fv } := Heap.get?_push_of_some _ hx
  cases cd
  cases hh
  dsimp only
  unfold storeInOwnDict ownDictForStores
  repeat (first | with_reducible refine L.at ?_ | with_reducible refine HandSPX.store_in_new ?_ ?_ | with_reducible refine wpAny_loadPart_at hx ?_ | wp_step)
  · exact ⟨_, #[], _, (Heap.get?_update_ne _ _ _ _ (Nat.ne_of_gt lx)).trans (Heap.get?_push_at rfl rfl), rfl, (fun e he => absurd he (by simp)), fun _ => rfl⟩
  · intro h2 tk2 hn keep
    refine hq h2 tk2 hp.objs.size (fun b o hb ho => ?_) (Nat.le_refl _) (Nat.ne_of_gt lx) ((keep.2 x (Nat.ne_of_lt lx)).trans (Heap.get?_update_self _ hx1 rfl)) hn
    rw [keep.2 b (Nat.ne_of_lt (Heap.lt_size ho)), Heap.get?_update_ne _ _ _ _ hb]
    exact Heap.get?_push_of_some _ ho
end
structure InitC (P : Program) (K : Frag) (C fI cc cda : Addr) (newId : String) (bm : List Value) (qual vn fld : Str) (params : Arguments) (body : List Stmt) (scope : Scope) (kV doc pm ct : Value) (an : Option Addr) : Prop where
  cls : ∃ nm q N bs sn sub ab col dd k0 k1 k2 k3 k5, K.lookup C = some (excClassObj nm q C N bs bm true sn sub ab col dd k0 k1 k2 k3 k5 newId)
  fn : ∃ oc od osl, K.lookup fI = some ⟨oc, od, .func (ksFn "__init__" qual params body scope .none kV doc pm an (.ref cda) ct cc), osl⟩
  code : codeIn K (.ref cda) qual = true
  cell : ∃ cl cld csl, K.lookup cc = some ⟨cl, cld, .cell (some (.ref C)), csl⟩
  file : ∃ ccl cdd vs ccs tf, K.lookup cda = some ⟨ccl, cdd, .fields vs, ccs⟩ ∧ vs[2]? = some (.str P.main.file tf)
  top : (P.main.scope.names.lookup ("super" : Str)).isSome = false
  st : nsIn K cStatics "thirdparty.any" = some none
  sa : findIn K (.ref C) "__setattr__" = some (some (.builtin "object.__setattr__"))
  nofld : findIn K (.ref C) fld = some none
  over : excOver K C bm = true
section
variable {prog : Program} {w : World} {A : Around} {E : Value → Shared → Prop} {s : Shared} {K : Frag} {mg : Str → Option Value} {base : Heap} {C fI cc cda x t0 L : Addr} {B newId i : String} {bm : List Value} {qual vn fld msg : Str} {params : Arguments} {body : List Stmt} {scope : Scope} {kV doc pm ct v : Value} {an : Option Addr} {m : Str → Option Value} {p0 p1 p2 p3 : Pos} {j : Nat}
theorem super_init (T : TailB B newId i bm) (IC : InitC prog K C fI cc cda newId bm qual vn fld params body scope kV doc pm ct an) (md : L2.Mod K mg base) (bk : ∀ b o, base.get? b = some o → s.heap.get? b = some o) (hsup : mg "super" = none)
    (hks : scope.names.lookup ("super" : Str) = some .globalImplicit) (hkc : scope.names.lookup ("__class__" : Str) = some .free) (hka : scope.names.lookup ("self" : Str) = some .local) (hk : scope.kind = .function)
    (hp : (params.posonlyargs ++ params.args).head?.map (·.arg) = some "self") (hns : s.heap.Ns L m) (hself : m "self" = some (.ref x)) (hx : s.heap.get? x = some (HandSPX.excO C t0)) {Q : Value → Shared → Prop} {pc : Pos} {pl : Sem Bool}
    (he : eval (.Call (.Attribute (.Call (.Name "super" p0) [] [] p1) "__init__" p2) [.Constant (.str msg) j pc] [] p3) (ksEnv qual scope L fI (.ref cda) cc) = (do
      let ov ← attributeBase (.Call (.Name "super" p0) [] [] p1) "__init__" (ksEnv qual scope L fI (.ref cda) cc) (eval (.Call (.Name "super" p0) [] [] p1) (ksEnv qual scope L fI (.ref cda) cc))
      standAt p2.atName
      let (f, first) ← holding [ov] (getMethod ov "__init__" pl)
      callWith p3 f first (backTo p3 (starEach [.Constant (.str msg) j pc] (ksEnv qual scope L fI (.ref cda) cc))) []))
    (hq : ∀ h' t1 tk, (∀ b o, b ≠ x → s.heap.get? b = some o → h'.get? b = some o) → h'.get? x = some (HandSPX.excO C t1) → Q .none { s with heap := h', toks := tk }) :
    _root_.PySem.wpAt (model prog w) A (.func body (ksEnv qual scope L fI (.ref cda) cc)) (eval (.Call (.Attribute (.Call (.Name "super" p0) [] [] p1) "__init__" p2) [.Constant (.str msg) j pc] [] p3) (ksEnv qual scope L fI (.ref cda) cc)) Q E s := by
  obtain ⟨nm, q, N, bs, sn, sub, ab, col, dd, k0, k1, k2, k3, k5, hC⟩ := IC.cls
  obtain ⟨oc, od, osl, hf⟩ := IC.fn
  obtain ⟨cl, cld, csl, hcell⟩ := IC.cell
  obtain ⟨ccl, cdd, vs, ccs, tf, hcode, hvs⟩ := IC.file
  have X : K.In s.heap := md.kin.keeps bk
  obtain ⟨mb, hb1, hb2⟩ := md.blt
  obtain ⟨hh, g, d, t, os⟩ := s
  have hC' := X _ _ hC
  obtain ⟨ar, har, harn⟩ : ∃ ar, (params.posonlyargs ++ params.args).head? = some ar ∧ ar.arg = "self" := by
    cases e : (params.posonlyargs ++ params.args).head? with
    | none => rw [e] at hp; cases hp
    | some ar => rw [e] at hp; exact ⟨ar, rfl, Option.some.inj hp⟩
  refine ks_wpAt_MethodCall (pl := pl) ?_ he
  refine ks_wpAt_super_base (env := ksEnv qual scope L fI (.ref cda) cc) hks hkc (by decide) rfl (X _ _ hf) rfl har rfl (X _ _ hcode) rfl hvs (by simp) IC.top ?_
  refine ks_loadName_global hk hks (loadGlobal_builtin (env := ksEnv qual scope L fI (.ref cda) cc) (md.glob.keeps bk) hsup (hb1.keeps bk) ((hb2 _ (by decide)).trans (show bootBuiltins "super" = some (.type "super") by kernel_rfl)) ⟨rfl, ?_⟩)
  refine wpAny_loadName_free hk hkc rfl ⟨_, X _ _ hcell, rfl⟩ ?_
  rw [harn]
  refine wpAny_loadName_local hk hka hns hself ?_
  refine ks_wpAny_isType_cls hC' rfl ⟨rfl, ?_⟩
  have hcl : clsIn K C = some { name := nm, bases := bs, mro := .ref C :: bm, ns := N, qualname := q, hasDict := true, slotNames := sn, subclasses := sub, abstract := ab, collection := col, hasDel := false } := by unfold clsIn; rw [hC] <;> rfl
  have I : InstAt hh x (HandSPX.excO C t0) C none := ⟨hx, rfl, rfl, trivial⟩
  have mroI : ∀ b : Value, (Value.ref C :: bm).contains b = true → mroIn K C b = some true := fun b hb => by
    unfold mroIn
    rw [hcl, Option.bind_some, if_neg (show ¬ (List.isEmpty (Value.ref C :: bm) = true) from Bool.false_ne_true), hb]
  have hxC : x ≠ C := ks_ne X I hcl
  refine ks_wpAny_call_super hC' rfl hx rfl (fun c e => by cases e) (looks_mroIn X (mroI (.ref C) (by simp))) (fun h1 hso k1 => ?_)
  have X1 : K.In h1 := X.keeps k1
  refine kxs_getMethod T.kx hso (looks_opaque X1 IC.st) (l₀ := .ref C :: bm) (l := bm) ((looks_clsIn X1 hcl).andThen .now) (by simp) X1 (T.along K) ((InstAt.type (M := model prog w) (show InstAt h1 x (HandSPX.excO C t0) C none from ⟨k1 _ _ hx, rfl, rfl, trivial⟩)).andThen (looks_mroIn X1 (mroI (.type B) (by rw [List.contains_cons, T.exc.hasB, Bool.or_true])))) hxC (by decide) ?_
  refine kxs_callWith (i := i) (x := x) (by rfl) (evalArgs_plain (Calls.spliced_cons ?_))
  show wpAny _ _ (eval (.Constant (.str msg) j pc) (ksEnv qual scope L fI (.ref cda) cc)) _ _ _
  refine wpAny_Constant_str ?_
  refine Calls.spliced_nil ⟨Heap.get?_push_at rfl rfl, ?_⟩
  dsimp only [List.append_nil, List.nil_append]
  have hu : (h1.push (kxs_mw i x)).get? h1.objs.size = some (kxs_mw i x) := Heap.get?_push_at rfl rfl
  have kp : ∀ b o, hh.get? b = some o → (h1.push (kxs_mw i x)).get? b = some o := fun b o e => Heap.get?_push_of_some _ (k1 b o e)
  have he2 := kp _ _ hx
  have hC2 := kp _ _ hC'
  refine wpAny_call (codeAny_of_tree ?_)
  show wpAny _ A.in1 (callAny (.ref h1.objs.size) ⟨[.str msg (t + 1)], []⟩) _ _ _
  simp only [callAny]
  refine wpAny_bind (wpAny_load hu ?_)
  simp only [kxs_mw, show (Value.type "method-wrapper" == Value.type "method" || Value.type "method-wrapper" == Value.type "builtin_function_or_method" || Value.type "method-wrapper" == Value.type "method-wrapper") = true by decide, if_true]
  refine KFB.if_so (by decide) ?_
  refine wpAny_bind (check_bound_init T.exc.toExcCallFacts hC2 he2 rfl ?_)
  refine wpAny_bind (wpAny_pure (wpAny_pure ?_))
  refine ⟨plainId_quiet T.exc.init.plain _, codeAny_builtin T.exc.initEntry ?_⟩
  refine exc_init_tree (cls := .ref C) (t0 := t0) (dv := none) (c2 := .none) (c3 := .none) (b4 := .bool false) he2 (by show 1 ≤ sizeLine; rw [sizeLine_eq]; decide) fun h' k' e' t' => ?_
  exact hq h' _ _ (fun b o hb e => k' b o hb (kp b o e)) e'
theorem init_code (T : TailB B newId i bm) {pe p5 p6 p7 p8 pc : Pos} {pl : Sem Bool} {call : Expr} (ecall : call = .Call (.Attribute (.Call (.Name "super" p0) [] [] p1) "__init__" p2) [.Constant (.str msg) j pc] [] p3)
    (ebody : body = [.Expr call pe, .Assign [.Attribute (.Name "self" p5) fld p6] (.Name vn p7) p8])
    (IC : InitC prog K C fI cc cda newId bm qual vn fld params body scope kV doc pm ct an) (md : L2.Mod K mg base) (bk : ∀ b o, base.get? b = some o → s.heap.get? b = some o) (hsup : mg "super" = none) (hroom : A.depth < recursionLimit)
    (hks : scope.names.lookup ("super" : Str) = some .globalImplicit) (hkc : scope.names.lookup ("__class__" : Str) = some .free) (hka : scope.names.lookup ("self" : Str) = some .local) (hkv : scope.names.lookup vn = some .local) (hk : scope.kind = .function)
    (hncell : ∀ x ∈ scope.names, x.2 ≠ .cell) (hco : scope.isCoroutine = false) (hgen : scope.isGenerator = false) (hvs : vn ≠ "self") (hvd : (vn == ("__debug__" : Str)) = false)
    (hp : (params.posonlyargs ++ params.args).head?.map (·.arg) = some ("self" : Str)) {args : Args} (hbind : BindsTo s (ksFn "__init__" qual params body scope .none kV doc pm an (.ref cda) ct cc) args [("self", .ref x), (vn, v)])
    (hx : s.heap.get? x = some (HandSPX.excO C t0)) (hxb : base.get? x = none) {R : Result → Shared → Prop}
    (he : ∀ L, eval call (ksEnv qual scope L fI (.ref cda) cc) = (do
      let ov ← attributeBase (.Call (.Name "super" p0) [] [] p1) "__init__" (ksEnv qual scope L fI (.ref cda) cc) (eval (.Call (.Name "super" p0) [] [] p1) (ksEnv qual scope L fI (.ref cda) cc))
      standAt p2.atName
      let (f, first) ← holding [ov] (getMethod ov "__init__" pl)
      callWith p3 f first (backTo p3 (starEach [.Constant (.str msg) j pc] (ksEnv qual scope L fI (.ref cda) cc))) []))
    (hint : ∀ L, interactive (ksEnv qual scope L fI (.ref cda) cc) = false) (hsw : ∀ L, swapsWith call none pe.line (ksEnv qual scope L fI (.ref cda) cc) = pure false)
    (hsw2 : ∀ L, swapsWith (.Name vn p7) (some (.Attribute (.Name "self" p5) fld p6)) p8.line (ksEnv qual scope L fI (.ref cda) cc) = pure false)
    (hq : ∀ h' t1 tk dx, (∀ b o, b ≠ x → s.heap.get? b = some o → h'.get? b = some o) → s.heap.objs.size ≤ dx → dx ≠ x → h'.get? x = some { cls := .ref C, dict := some dx, data := .fields #[.ref t1, .none, .none, .none, .bool false, .none] } →
      h'.Ns1 dx (fun y => if y = fld then some v else none) → R (.ok (.ret .none)) { s with heap := h', toks := tk }) :
    codeAny (model prog w) A (.call (.ref fI) args) R s := by
  obtain ⟨oc, od, osl, hf⟩ := IC.fn
  have X : K.In s.heap := md.kin.keeps bk
  have lim : s.heap.NoLimit := md.nolimit.keeps bk
  refine ks_codeAny_call_defAt (fd := ksFn "__init__" qual params body scope .none kV doc pm an (.ref cda) ct cc) (body := body) (binds := [("self", .ref x), (vn, v)]) hroom (X _ _ hf) rfl lim (codeRec_of X IC.code) rfl hbind hncell (fun y hy => ?_) (fun h0 hns hk0 => ?_) hco hgen hk
  · simp only [List.mem_cons, List.not_mem_nil, or_false] at hy
    rcases hy with rfl | rfl
    · exact hka
    · exact hkv
  have hxL : x < s.heap.objs.size := Heap.lt_size hx
  show _root_.PySem.wpAt (model prog w) (A.deeper (ksEnv qual scope s.heap.objs.size fI (.ref cda) cc)) (.func body (ksEnv qual scope s.heap.objs.size fI (.ref cda) cc)) (execs body (ksEnv qual scope s.heap.objs.size fI (.ref cda) cc)) _ _ _
  generalize hL : s.heap.objs.size = L at *
  have hself : ([((vn : Str), v), (("self" : Str), Value.ref x)] : List (Str × Value)).lookup ("self" : Str) = some (.ref x) := by
    have : (("self" : Str) == vn) = false := by simpa using fun e : ("self" : Str) = vn => hvs e.symm
    simp [List.lookup, this]
  have hval : ([((vn : Str), v), (("self" : Str), Value.ref x)] : List (Str × Value)).lookup vn = some v := by simp [List.lookup]
  have eb := ebody
  rw [show execs body (ksEnv qual scope L fI (.ref cda) cc) = execs [.Expr call pe, .Assign [.Attribute (.Name "self" p5) fld p6] (.Name vn p7) p8] (ksEnv qual scope L fI (.ref cda) cc) from by rw [eb]]
  refine ks_wpAt_execs_cons (ks_wpAt_Expr_any ?_ (hint L) (hsw L))
  subst ecall
  refine super_init (s := { s with heap := h0, toks := s.toks + ([(("self" : Str), Value.ref x), (vn, v)] : List (Str × Value)).length }) T IC md (fun b o e => hk0 b o (bk b o e)) hsup hks hkc hka hk hp hns hself (hk0 _ _ hx) (he L) fun h1 t1 tk k1 hx1 => ?_
  have xL : L ≠ x := Nat.ne_of_gt hxL
  have hns1 : h1.Ns L (fun y => ([((vn : Str), v), (("self" : Str), Value.ref x)] : List (Str × Value)).lookup y) := by
    obtain ⟨oL, es, ep, hL', r⟩ := hns
    exact ⟨oL, es, ep, k1 _ _ xL hL', r⟩
  have X1 : K.In h1 := md.kin.keeps fun b o e => k1 b o (fun z => by rw [z, hxb] at e; cases e) (hk0 b o (bk b o e))
  obtain ⟨nm, q, N, bs, sn, sub, ab, col, dd, k0, k1', k2, k3, k5, hC⟩ := IC.cls
  have hcl : clsIn K C = some { name := nm, bases := bs, mro := .ref C :: bm, ns := N, qualname := q, hasDict := true, slotNames := sn, subclasses := sub, abstract := ab, collection := col, hasDel := false } := by unfold clsIn; rw [hC] <;> rfl
  refine ks_wpAt_execs_cons (ks_wpAt_Assign_Attr (_root_.PySem.wpAt_of_wpAny (wpAny_Name (wpAny_loadName_local hk hkv hns1 hval ?_) hvd)) (hsw2 L))
  refine wpAny_Name (wpAny_loadName_local hk hka hns1 hself ?_) (by decide)
  refine set_plain X1 (ox := HandSPX.excO C t1) (od := none) ⟨hx1, rfl, rfl, trivial⟩ IC.sa ?_
  refine osa_new T X1 hx1 hcl IC.over rfl IC.nofld fun h2 tk2 dx k2 dn dne hx2 hn2 => ?_
  refine _root_.PySem.wpAt_of_wpAny (wpAny_execs_nil ?_)
  have key := hq h2 t1 tk2 dx (fun b o hb e => k2 b o hb (k1 b o hb (hk0 b o e))) ?_ dne hx2 hn2
  · exact key
  · obtain ⟨oL, es, ep, hL', r⟩ := hns1
    exact Nat.le_trans (Nat.le_of_lt (Heap.lt_size hL')) dn
end
end PEI
namespace L2
open PySem PySem.Spec PyProof.Rows
section
variable {P : Program} {w : World} {H : Hp} {hp h' : Heap} {a C dx : Addr} {f : Str} {y : V} {u : Value}
theorem fld_un (hok : HOk P w H hp) (e : H a = some (exo a C none)) (k : ∀ b o, b ≠ a → hp.get? b = some o → h'.get? b = some o) (dn : hp.objs.size ≤ dx) (dne : dx ≠ a) {t1 : Addr}
    (hx : h'.get? a = some { cls := .ref C, dict := some dx, data := .fields #[.ref t1, .none, .none, .none, .bool false, .none] }) (hn : h'.Ns1 dx (fun g => if g = f then some u else none)) (ry : RelV y u) :
    H dx = none ∧ (∀ fs, Un fs [] H (upd (upd H dx (exd dx [(f, y)])) a (exo a C (some dx))) hp h') ∧ HOk P w (upd (upd H dx (exd dx [(f, y)])) a (exo a C (some dx))) h' := by
  have hnd : H dx = none := hok.fresh dn
  have nd : ∀ {b : Addr} {o : Obj}, hp.get? b = some o → b ≠ dx := fun {b o} q => Nat.ne_of_lt (Nat.lt_of_lt_of_le (Heap.lt_size q) dn)
  have na : ∀ {b : Addr}, H b = none → b ≠ a := fun {b} n z => by
    rw [z, e] at n
    cases n
  refine ⟨hnd, fun fs => {
    keep := fun b o q n _ _ => k b o (na n) q
    slot := fun b o q n _ _ => ⟨o.slots, k b o (na n) q⟩
    free := fun b o q n _ => by rw [upd_ne (na n), upd_ne (nd q)]; exact n
    there := fun b o q _ => by
      by_cases hb : b = a
      · exact ⟨_, by rw [hb]; exact hx⟩
      · exact ⟨o, k b o hb q⟩
    tups := fun b xs q => by rw [upd_ne (at_ne e q exo_tup), upd_ne (ne_of_none q hnd)]; exact q
    frzs := fun b o v q => by rw [upd_ne (at_ne e q exo_frz), upd_ne (ne_of_none q hnd)]; exact q
    tbls := fun b ps q => ⟨#[], by rw [upd_ne (at_ne e q exo_tbl), upd_ne (ne_of_none q hnd), q]; simp⟩ }, fun b o q => ?_⟩
  by_cases hb : b = a
  · subst hb
    rw [upd_same] at q
    cases q
    exact exo_ok hx
  · rw [upd_ne hb] at q
    by_cases hd : b = dx
    · subst hd
      rw [upd_same] at q
      cases q
      exact exd_ok hn (relO_put (fs := []) ry fun g => True.intro)
    · rw [upd_ne hd] at q
      exact (hok b o q).stay (fun c v hc z => k c v (by
          rcases hc with hc | hc
          · rw [hc]
            exact hb
          · exact at_ne e hc exo_own) z)
        (fun c hc => by rw [upd_ne (at_ne e hc exo_own), upd_ne (ne_of_none hc hnd)]; exact hc) (fun c xs hc => by rw [upd_ne (at_ne e hc exo_tup), upd_ne (ne_of_none hc hnd)]; exact hc)
end
def tMkF (C : Addr) (f : Str) (ta : TA) : St → Hp → XK → Prop := fun σ H Q => ta σ H fun vs H1 => ∃ y, vs = [y] ∧ ∀ d, H1 d = none → Q (.ref C) (some d) (upd H1 d (.xd [(f, y)]))
structure ErrC (P : Program) (K : PySem.W.Frag) (C fI cc cda : Addr) (newId : String) (bm : List Value) (qual vn fld : Str) (params : Arguments) (body : List Stmt) (scope : Scope) (kV doc pm ct : Value) (an : Option Addr) : Prop extends PEI.InitC P K C fI cc cda newId bm qual vn fld params body scope kV doc pm ct an where
  exC : PySem.W.subIn K (.ref C) (.type "BaseException") = some true
  tyC : PySem.W.typeIn K (.ref C) = some (.type "type")
  kC : PySem.W.keepIn K (.ref C) = true
  iC : PySem.W.findIn K (.ref C) "__init__" = some (some (.ref fI))
  tI : PySem.W.typeIn K (.ref fI) = some (.type "function")
structure InitT (qual vn fld msg : Str) (params : Arguments) (body : List Stmt) (scope : Scope) (p0 p1 p2 p3 pe p5 p6 p7 p8 pc : Pos) (j : Nat) (pl : Sem Bool) : Prop where
  body_ : body = [.Expr (.Call (.Attribute (.Call (.Name "super" p0) [] [] p1) "__init__" p2) [.Constant (.str msg) j pc] [] p3) pe, .Assign [.Attribute (.Name "self" p5) fld p6] (.Name vn p7) p8]
  ks : scope.names.lookup ("super" : Str) = some .globalImplicit
  kc : scope.names.lookup ("__class__" : Str) = some .free
  ka : scope.names.lookup ("self" : Str) = some .local
  kv : scope.names.lookup vn = some .local
  kind : scope.kind = .function
  nocell : ∀ x ∈ scope.names, x.2 ≠ .cell
  co : scope.isCoroutine = false
  gen : scope.isGenerator = false
  ne : vn ≠ "self"
  dbg : (vn == ("__debug__" : Str)) = false
  par : (params.posonlyargs ++ params.args).head?.map (·.arg) = some ("self" : Str)
  ev : ∀ (L fI cc : Addr) (cdv : Value), eval (.Call (.Attribute (.Call (.Name "super" p0) [] [] p1) "__init__" p2) [.Constant (.str msg) j pc] [] p3) (PySem.W.ksEnv qual scope L fI cdv cc) = (do
      let ov ← attributeBase (.Call (.Name "super" p0) [] [] p1) "__init__" (PySem.W.ksEnv qual scope L fI cdv cc) (eval (.Call (.Name "super" p0) [] [] p1) (PySem.W.ksEnv qual scope L fI cdv cc))
      standAt p2.atName
      let (f, first) ← holding [ov] (getMethod ov "__init__" pl)
      callWith p3 f first (backTo p3 (starEach [.Constant (.str msg) j pc] (PySem.W.ksEnv qual scope L fI cdv cc))) [])
  int : ∀ (L fI cc : Addr) (cdv : Value), interactive (PySem.W.ksEnv qual scope L fI cdv cc) = false
  sw : ∀ (L fI cc : Addr) (cdv : Value), swapsWith (.Call (.Attribute (.Call (.Name "super" p0) [] [] p1) "__init__" p2) [.Constant (.str msg) j pc] [] p3) none pe.line (PySem.W.ksEnv qual scope L fI cdv cc) = pure false
  sw2 : ∀ (L fI cc : Addr) (cdv : Value), swapsWith (.Name vn p7) (some (.Attribute (.Name "self" p5) fld p6)) p8.line (PySem.W.ksEnv qual scope L fI cdv cc) = pure false
  bind : ∀ (kV doc pm cdv ct a u : Value) (an : Option Addr) (cc : Addr), bindArgs (PySem.W.ksFn "__init__" qual params body scope .none kV doc pm an cdv ct cc) ⟨[a, u], []⟩ = pure ([(("self" : Str), a), (vn, u)] : List (Str × Value))
theorem pmk_fld {X : Cx} {B newId i : String} {bm : List Value} {C fI cc cda : Addr} {x qual vn fld msg : Str} {params : Arguments} {body : List Stmt} {scope : Scope} {kV doc pm ct : Value} {an : Option Addr} {p0 p1 p2 p3 pe p5 p6 p7 p8 pc p pos : Pos} {j k : Nat} {pl : Sem Bool} {e : Expr} {ta : TA}
    (T : PEI.TailB B newId i bm) (c : ErrC X.prog X.K C fI cc cda newId bm qual vn fld params body scope kV doc pm ct an) (t : InitT qual vn fld msg params body scope p0 p1 p2 p3 pe p5 p6 p7 p8 pc j pl)
    (hsup : X.mg "super" = none) (hr : Room (k + 1) X.A) (hg : Gl X x) (hm : X.mg x = some (.ref C)) (ha : PA X [e] ta)
    (hdb : (x == ("__debug__" : Str)) = false := by decide) (he : starEach [e] X.env = (false, eval e X.env) :: starEach [] X.env := by rfl) (hpl : (backTo pos (starEach [] X.env)).any (·.1) = false := by rfl) :
    PMk X (.Call (.Name x p) [e] [] pos) (tMkF C fld ta) := by
  intro pins s σ H Q I h
  obtain ⟨nm, q, N, bs, sn, sub, ab, col, dd, k0, k1, k2, k3, k5, hC⟩ := c.cls
  refine wpAny_Call_Name_kw (ld_glob I hg hm ?_ hdb)
  refine PySem.W.callWith_K (h₀ := X.base) I.ok.mod.kin c.kC (thn (ha.run pos pins s σ H _ I h) fun us s1 ⟨vs, H1, I1, r1, y, ev, q1⟩ => ⟨I1.kIn, ?_⟩) he hpl
  subst ev
  show wpAny _ _ (call (.ref C) us) _ _ _
  obtain ⟨hp, g, dr, tk, os⟩ := s1
  obtain ⟨u, hu, ry⟩ : ∃ u, us = [u] ∧ RelV y u := by
    cases r1 with
    | cons ra rb => cases rb; exact ⟨_, rfl, ra⟩
  subst hu
  have hsz : hp.objs.size ≤ hp.objs.size + 1 := Nat.le_succ _
  have hn : H1 (hp.objs.size + 1) = none := I1.hok.fresh hsz
  have kk : ∀ b o, hp.get? b = some o → ((hp.push (PySem.W.kdv_tup [u])).push (PySem.HandSPX.excO C hp.objs.size)).get? b = some o := fun b o e => Heap.get?_push_of_some _ (Heap.get?_push_of_some _ e)
  have hget : ((hp.push (PySem.W.kdv_tup [u])).push (PySem.HandSPX.excO C hp.objs.size)).get? (hp.objs.size + 1) = some (PySem.HandSPX.excO C hp.objs.size) := by heap_get
  have I2 : Inv X pins σ (upd H1 (hp.objs.size + 1) (exo (hp.objs.size + 1) C none)) ⟨(hp.push (PySem.W.kdv_tup [u])).push (PySem.HandSPX.excO C hp.objs.size), g, dr, tk, os⟩ :=
    I1.laid (t' := tk) (a := hp.objs.size + 1) (o := exo (hp.objs.size + 1) C none) (h' := (hp.push (PySem.W.kdv_tup [u])).push (PySem.HandSPX.excO C hp.objs.size)) kk hsz (exo_ok hget)
  have hxb : X.base.get? (hp.objs.size + 1) = none := by
    cases z : X.base.get? (hp.objs.size + 1) with
    | none => rfl
    | some o =>
      have := Heap.lt_size (I1.bk _ _ z)
      exact absurd (show hp.objs.size + 1 < hp.objs.size from this) (by omega)
  refine wpAny_call (PySem.HandSPX.call_own T.exc (fun Y => rfl) (I1.kIn _ _ hC) (PySem.W.looks_findIn I1.kIn c.iC) (fun self => PySem.W.bind_fn I1.kIn self c.tI) (by show 1 ≤ sizeLine; rw [sizeLine_eq]; decide)
    (PEI.init_code (base := X.base) (x := hp.objs.size + 1) (v := u) T rfl t.body_ c.toInitC I.ok.mod (fun b o e => I2.bk b o e) hsup (hr.make C [u] []).depth t.ks t.kc t.ka t.kv t.kind t.nocell t.co t.gen t.ne t.dbg t.par (BindsTo.of_eq (t.bind _ _ _ _ _ _ _ _ _)) hget hxb
      (fun L => t.ev L fI cc _) (fun L => t.int L fI cc _) (fun L => t.sw L fI cc _) (fun L => t.sw2 L fI cc _) fun h' t1 tk' dx kb dn dne hx hn2 => ?_))
  have ea : upd H1 (hp.objs.size + 1) (exo (hp.objs.size + 1) C none) (hp.objs.size + 1) = some (exo (hp.objs.size + 1) C none) := upd_same
  obtain ⟨hnd, un, ok2⟩ := fld_un (y := y) (f := fld) I2.hok ea kb dn dne hx hn2 ry
  have hd1 : H1 dx = none := by rw [upd_ne dne] at hnd; exact hnd
  refine ⟨rfl, mk_end (hp2 := (hp.push (PySem.W.kdv_tup [u])).push (PySem.HandSPX.excO C hp.objs.size)) (raises_own c.exC c.tyC) I1 hsz kk (un _) ok2 rfl I1.bare upd_same (by rw [upd_ne dne, upd_same]) hd1 ?_⟩
  have eH : upd (del (upd (upd (upd H1 (hp.objs.size + 1) (exo (hp.objs.size + 1) C none)) dx (exd dx [(fld, y)])) (hp.objs.size + 1) (exo (hp.objs.size + 1) C (some dx))) (hp.objs.size + 1)) dx (.xd [(fld, y)]) = upd H1 dx (.xd [(fld, y)]) := by
    funext b
    by_cases hb : b = dx
    · rw [hb, upd_same, upd_same]
    · rw [upd_ne hb, upd_ne hb]
      by_cases hb2 : b = hp.objs.size + 1
      · rw [hb2, del_same, hn]
      · rw [del_ne hb2, upd_ne hb2, upd_ne hb, upd_ne hb2]
  rw [eH]
  exact q1 dx hd1
end L2
set_option maxHeartbeats 1000000
namespace PF
open PySem PySem.Spec PyProof.Rows L2 SlX
def DpE (K : PySem.W.Frag) (F : Hp) (v : V) (d : PyData) : Prop := Dp K F v d ∨ (d = .dict [] ∧ rD0.r F v ())
theorem DpE.st {K : PySem.W.Frag} {F F' : Hp} {v : V} {d : PyData} (s : Same F F') (h : DpE K F v d) : DpE K F' v d := h.imp (fun h => dp_same s _ _ h) fun h => ⟨h.1, rD0.st s h.2⟩
theorem DpE.dp {K : PySem.W.Frag} {F : Hp} {v : V} {d : PyData} (h : DpE K F v d) (n : d ≠ .dict []) : Dp K F v d := h.resolve_right fun z => n z.1
def rDt (K : PySem.W.Frag) : Rp PyData := ⟨fun F v d => DpE K F v d, fun s h => DpE.st s h⟩
def ZD (K : PySem.W.Frag) (f : Option Str) (F : Hp) (v : PyData) (d : Option Addr) : Prop := match f with
  | none => d = none
  | some f => ∃ a y, d = some a ∧ F a = some (.xd [(f, y)]) ∧ DpE K F y v
theorem ZD.st {K : PySem.W.Frag} {f : Option Str} {F F' : Hp} {v : PyData} {d : Option Addr} (s : Same F F') (h : ZD K f F v d) : ZD K f F' v d := by
  cases f with
  | none => exact h
  | some f =>
    obtain ⟨a, y, e, g, t⟩ := h
    exact ⟨a, y, e, s _ _ g, t.st s⟩
def ZE (K : PySem.W.Frag) (mg : Str → Option Value) (fl : Str → Option Str) (F : Hp) (e : Er) (cls : Value) (d : Option Addr) : Prop := mg e.cls = some cls ∧ ZD K (fl e.cls) F e.val d
theorem ZE.st {K : PySem.W.Frag} {mg : Str → Option Value} {fl : Str → Option Str} {F F' : Hp} {e : Er} {cls : Value} {d : Option Addr} (s : Same F F') (h : ZE K mg fl F e cls d) : ZE K mg fl F' e cls d := ⟨h.1, h.2.st s⟩
def mdF (K : PySem.W.Frag) (mg : Str → Option Value) (fl : Str → Option Str) (E : XK) : Md := ⟨ZE K mg fl, E⟩
structure GErr (P : Program) (K : PySem.W.Frag) (mg : Str → Option Value) (x f : Str) (C : Addr) : Prop where
  ex : ∃ B newId i bm fI cc cda qual vn msg params body scope kV doc pm ct an p0 p1 p2 p3 pe p5 p6 p7 p8 pc j pl, PEI.TailB B newId i bm ∧ ErrC P K C fI cc cda newId bm qual vn f params body scope kV doc pm ct an ∧ InitT qual vn f msg params body scope p0 p1 p2 p3 pe p5 p6 p7 p8 pc j pl
  gl : mg x = some (.ref C)
  sup : mg "super" = none
  xf : XfC K C
  nof : PySem.W.findIn K (.ref C) f = some none
section
variable {X : Cx} {k m : Nat} {sp : Sp} {x f : Str} {p pos : Pos} {e : Expr} {es : List Expr} {t : TA} {W : WX} {C : Addr}
def tRaiseF (W : WX) (C : Addr) (f : Str) (ta : TA) : TS := fun _ σ H => tMkF C f ta σ H fun cls d H' => W cls d σ H'
theorem ps_raiseF {pos' : Pos} (tk : Takes X W) (G : GErr X.prog X.K X.mg x f C) (hr : Room (k + 1) X.A) (ha : PA X [e] t) (hc : X.calm = true := by rfl) (hg : Gl X x := by rfl) (hdb : (x == ("__debug__" : Str)) = false := by decide)
    (he : starEach [e] X.env = (false, eval e X.env) :: starEach [] X.env := by rfl) (hpl : (backTo pos (starEach [] X.env)).any (·.1) = false := by rfl) : PS X (.Raise (some (.Call (.Name x p) [e] [] pos)) none pos') (tRaiseF W C f t) := by
  obtain ⟨B, newId, i, bm, fI, cc, cda, qual, vn, msg, params, body, scope, kV, doc, pm, ct, an, p0, p1, p2, p3, pe, p5, p6, p7, p8, pc, j, pl, h1, h2, h3⟩ := G.ex
  exact ps_raise hc tk (pmk_fld h1 h2 h3 G.sup hr hg G.gl ha hdb he hpl)
end
def spOfF {α β : Type} (K : PySem.W.Frag) (mg : Str → Option Value) (fl : Str → Option Str) (S : RA α) (R : Rp β) (m : α → M β) : Sp := fun vs H Q X => ∃ F a, Same F H ∧ S.r F vs a ∧
  (m a).wp 0 (fun b _ => ∀ v F' H', ExtX none F H F' H' → R.r F' v b → Q v H') (fun e => ∀ cls d F' H', ExtX none F H F' H' → ZE K mg fl F' e cls d → X cls d H')
section
variable {Γ Γ' Γ'' Δ Δ' α β γ δ : Type} {μ : Md} {E : EV Γ} {E' : EV Γ'} {E'' : EV Γ''} {El : EV Δ} {El' : EV Δ'} {Ra : Rp α} {Rb : Rp β} {R : Rp γ} {mg : Str → Option Value} {fl : Str → Option Str} {XE : XK} {K : PySem.W.Frag}
theorem spOfF_len {S : RA α} {m : α → M γ} {vs : List V} {H : Hp} {Q : VK} {X : XK} (h : spOfF K mg fl S R m vs H Q X) : vs.length = S.n := by
  obtain ⟨F, a, s, r, _⟩ := h
  exact S.len r
theorem s_raiseN {x : Str} {C : Addr} {W : WX} (g : mg x = some (.ref C)) (hf : fl x = none) (hW : ∀ {p : Option Addr} {H0 F H : Hp} {σ : L2.St} {ρ : Γ}, E.r p H0 F H σ ρ → WE W σ = XE) : SS (mdF K mg fl XE) E E' El R (tRaise W C) fun _ => M.raise ⟨x, .none⟩ := fun k F H σ ρ c D w e h => by
  have z : XE (.ref C) none H := h (.ref C) none F H w.ext ⟨g, by show ZD K (fl x) F .none none; rw [hf]; rfl⟩
  rw [← hW e.r] at z
  exact z
theorem s_raiseF {x f : Str} {C : Addr} {W : WX} {te : TE} {ma : Γ → M α} {dat : α → PyData} (g : mg x = some (.ref C)) (hf : fl x = some f) (dr : ∀ {F : Hp} {v : V} {a : α}, Ra.r F v a → DpE K F v (dat a)) (hW : ∀ {p : Option Addr} {H0 F H : Hp} {σ : L2.St} {ρ : Γ}, E.r p H0 F H σ ρ → WE W σ = XE)
    (ha : SE (mdF K mg fl XE) E Ra te ma) : SS (mdF K mg fl XE) E E' El R (tRaiseF W C f (tCons te tNil)) fun ρ => (ma ρ).bind fun a => M.raise ⟨x, dat a⟩ := fun k F H σ ρ c D w e h => by
  refine ha k F H σ ρ c _ w e (wp_imp h fun a c1 q v F1 H1 x1 w1 r1 => ?_)
  refine ⟨v, rfl, fun d hd => ?_⟩
  have z : XE (.ref C) (some d) (upd H1 d (.xd [(f, v)])) := q (.ref C) (some d) (upd F1 d (.xd [(f, v)])) _ (w1.ext.trans (ExtX.new w1.sub hd _)) ⟨g, by show ZD K (fl x) _ (dat a) _; rw [hf]; exact ⟨d, v, rfl, upd_same, (dr r1).st (ExtX.new (p := k.p) w1.sub hd _).fz⟩⟩
  rw [← hW e.r] at z
  exact z
theorem e_callF {S : RA α} {ta : TA} {ma : Γ → M α} {m : α → M γ} {W : WX} (hW : ∀ {p : Option Addr} {H0 F H : Hp} {σ : L2.St} {ρ : Γ}, E.r p H0 F H σ ρ → WE W σ = XE) (ha : SA (mdF K mg fl XE) E S ta ma) : SE (mdF K mg fl XE) E R (tCallS (spOfF K mg fl S R m) (WE W) ta) fun ρ => (ma ρ).bind fun a => (m a).still := fun k F H σ ρ c Q w e h =>
  ha k F H σ ρ c _ w e (wp_imp h fun a c1 q vs F1 H1 x1 w1 r1 => by
    show spOfF K mg fl S R m vs H1 Q (WE W σ)
    rw [hW e.r]
    exact ⟨F1, a, w1.sub, r1, (m a).mono 0 (fun b _ z v F' H' x r => z v F' H' (x1.trans (w1.call x).1) (w1.call x).2 r) (fun er z cls d F' H' x hc => z cls d F' H' (w1.ext.trans (w1.call x).1) hc) q⟩)
theorem fn_bodyF {S : RA α} {n : Nat} {ρ0 : α → Γ} {N : List Str} {t : TS} {mb : Γ → M (Ct Γ' Unit γ)} {vs : List V} {H : Hp} {Q : VK} {X : XK} (h0 : St0 S n E ρ0) (hn : N.length = S.n + n) (hb : SS (mdF K mg fl X) E E' eNil R t mb)
    (hs : spOfF K mg fl S R (fun a => (mb (ρ0 a)).fin) vs H Q X) : t { nx := fun _ H' => Q .non H', rt := Q } (L2.start N vs) H := by
  obtain ⟨F, a, s, r, h⟩ := hs
  rw [start_eq (n := n) (by rw [hn, S.len r])]
  refine hb ⟨none, F, H⟩ F H _ (ρ0 a) 0 _ ⟨s, ExtX.refl s, fun _ e => nomatch e⟩ ⟨h0.r r, by rw [h0.ow]; exact List.nodup_nil⟩ ?_
  refine (mb (ρ0 a)).mono 0 (fun t c z => ?_) (fun er z cls d F' H' x hc => z cls d F' H' x hc) h
  cases t with
  | nx _ => exact z.elim
  | rt b => exact fun v F' H' w r => z v F' H' w.ext r
  | bk _ => exact z.elim
  | ct _ => exact z.elim
theorem fn_bodyNF {S : RA α} {n : Nat} {ρ0 : α → Γ} {N : List Str} {t : TS} {mb : Γ → M (Ct Γ' Unit Unit)} {vs : List V} {H : Hp} {Q : VK} {X : XK} (h0 : St0 S n E ρ0) (hn : N.length = S.n + n) (hb : SS (mdF K mg fl X) E E' eNil rNon t mb)
    (hs : spOfF K mg fl S rNon (fun a => (mb (ρ0 a)).finN) vs H Q X) : t { nx := fun _ H' => Q .non H', rt := Q } (L2.start N vs) H := by
  obtain ⟨F, a, s, r, h⟩ := hs
  rw [start_eq (n := n) (by rw [hn, S.len r])]
  refine hb ⟨none, F, H⟩ F H _ (ρ0 a) 0 _ ⟨s, ExtX.refl s, fun _ e => nomatch e⟩ ⟨h0.r r, by rw [h0.ow]; exact List.nodup_nil⟩ ?_
  refine (mb (ρ0 a)).mono 0 (fun t c z => ?_) (fun er z cls d F' H' x hc => z cls d F' H' x hc) h
  cases t with
  | nx _ => exact fun F' H' σ' _ w _ => z .non F' H' w.ext rfl
  | rt b => exact fun v F' H' w r => z v F' H' w.ext r
  | bk _ => exact z.elim
  | ct _ => exact z.elim
def SETF (K : PySem.W.Frag) (mg : Str → Option Value) (fl : Str → Option Str) (E : EV Γ) (R : Rp α) (te : WX → TE) (m : Γ → M α) : Prop := ∀ (k : Cn) (F H : Hp) (σ : L2.St) (ρ : Γ) (c : Nat) (Q : VK) (W : WX), Wo k F H c → EI k E F H σ ρ →
  (m ρ).wp c (VP k F H R Q) (fun e => ∀ cls d F' H', ExtX none F H F' H' → ZE K mg fl F' e cls d → W cls d σ H') → te W σ H Q
def SBF (K : PySem.W.Frag) (mg : Str → Option Value) (fl : Str → Option Str) (E : EV Γ) (E' : EV Γ') (El : EV Δ) (R : Rp β) (ts : WX → TS) (m : Γ → M (Ct Γ' Δ β)) : Prop :=
  ∀ (k : Cn) (F H : Hp) (σ : L2.St) (ρ : Γ) (c : Nat) (D : Ends) (W : WX), Wo k F H c → EI k E F H σ ρ → (m ρ).wp c (SP k F E' El R D) (fun e => ∀ cls d F' H', ExtX none F H F' H' → ZE K mg fl F' e cls d → W cls d σ H') → ts W D σ H
theorem sb_dropF {te : WX → TE} {m : Γ → M α} (he : SETF K mg fl E Ra te m) : SBF K mg fl E E El R (fun W => tDrop (te W)) fun ρ => (m ρ).bind fun _ => .ret (.nx ρ) := fun k F H σ ρ c D W w e h =>
  he k F H σ ρ c _ W w e (wp_imp h fun a c1 q v F1 H1 x1 w1 r1 => q F1 H1 σ x1.fz w1 (e.step x1))
end
def sErr (K : PySem.W.Frag) (mg : Str → Option Value) (fl : Str → Option Str) (a : Addr) (cls : Value) (d : Option Addr) : SR Er :=
  ⟨fun _ _ F _ o e => o = some (.ref a) ∧ ZE K mg fl F e cls d, fun _ => none, fun x ⟨e, h⟩ => ⟨e, h.st x.fz⟩, fun _ _ h => h, fun s _ _ ⟨e, h⟩ => ⟨e, h.st s⟩, fun _ e => nomatch e⟩
theorem put_nil {i : Nat} : PutS eNil i sUn eNil (fun δ _ => δ) where
  put := fun {p H0 F H σ ρ o b} e _ => by
    have e : σ = [] := e
    subst e
    exact show ([] : L2.St).set i o = [] from rfl
  sub := fun h => nomatch h
  nd := fun _ _ => List.nodup_nil
section
variable {Γ Γ' Γh Γ1 Δ α β γ : Type} {μ : Md} {E : EV Γ} {E' : EV Γ'} {El : EV Δ} {R : Rp γ} {mg : Str → Option Value} {fl : Str → Option Str} {Eh : Addr → Value → Option Addr → EV Γh} {E1 : Addr → Value → Option Addr → EV Γ1} {K : PySem.W.Frag}
theorem e_xf {E : EV Γ} {a C : Addr} {cls : Value} {d : Option Addr} {i : Nat} {x f : Str} {get : Γ → Er} (g : mg x = some (.ref C)) (hf : fl x = some f) (hg : GetS E i (sErr K mg fl a cls d) get) :
    SE μ E (rDt K) (tXf a cls d C f (tVar i)) fun ρ => M.need ((get ρ).cls = x) (M.ret (get ρ).val) := fun k F H σ ρ c Q w e ⟨q1, q⟩ => by
  obtain ⟨o, h1, h2, h3, h4⟩ := hg.get e.r
  subst h2
  rw [q1] at h3 h4
  rw [g] at h3
  unfold ZD at h4
  rw [hf] at h4
  obtain ⟨dd, y, e1, e2, e3⟩ := h4
  refine ⟨.ref a, h1, rfl, (Option.some.inj h3).symm, dd, [(f, y)], y, e1, w.sub _ _ e2, by simp [List.lookup], ?_⟩
  exact q y F H (ExtX.refl w.sub) w e3
end
section
variable {Γ α β γ : Type} {μ : Md} {E : EV Γ} {Ra : Rp α} {Rb : Rp β} {R : Rp γ} {K : PySem.W.Frag}
theorem e_dat {d : α → PyData} {n : Nat} {te : TE} {m : Γ → M α} (hd : DpR K Ra d n) (h : SE μ E Ra te m) : SE μ E (rDt K) te fun ρ => (m ρ).bind fun a => .ret (d a) := fun k F H σ ρ c Q w e q =>
  h k F H σ ρ c Q w e (wp_imp q fun a c1 z v F' H' x w' r => z v F' H' x w' (.inl (hd.dp r)))
theorem o_eqDt : OpS μ (rEqD K) (rDt K) (rDt K) rBl fun a b => .need ((a.canLay0 = true ∧ a.depth ≤ 64) ∧ (b.canLay0 = true ∧ b.depth ≤ 64)) (.ret (PyData.eqv a b)) := fun k F H c x y a b Q w hx hy q =>
  ⟨_, _, dp_same w.sub _ _ (hx.dp fun e => by have := q.1.1.1; rw [e] at this; cases this), dp_same w.sub _ _ (hy.dp fun e => by have := q.1.2.1; rw [e] at this; cases this), shaped_of q.1.1.2 (Nat.le_refl _) q.1.1.1, shaped_of q.1.2.2 (Nat.le_refl _) q.1.2.1, q.2 _ F H (ExtX.refl w.sub) w rfl⟩
def tyD : PyData → String
  | .none => "NoneType"
  | .bool _ => "bool"
  | .int _ => "int"
  | .str _ => "str"
  | .list _ => "list"
  | .tuple _ => "tuple"
  | .dict _ => "dict"
theorem dp_ty {F H : Hp} {v : V} {d : PyData} (s : Same F H) (h : Dp K F v d) : TyY K H v (.type (tyD d)) := by
  cases h with
  | non => exact .x (.base .non)
  | bl b => exact .x (.base (.bl b))
  | int i => exact .x (.base (.int i))
  | str x => exact .x (.base (.str x))
  | lst h t =>
    rcases h with (h | ⟨o, h⟩) | ⟨o, its, n, h1, h2, _⟩
    · exact .x (.base (.lst (s _ _ h)))
    · exact .x (.base (.frz (s _ _ h)))
    · exact .x (.kList h1 h2)
  | tup h t =>
    rcases h with (h | ⟨o, h⟩) | ⟨o, its, n, h1, h2, _⟩
    · exact .x (.base (.tup (s _ _ h)))
    · exact .x (.fTuple (s _ _ h))
    · exact .x (.kTuple h1 h2)
theorem dpE_ty {F H : Hp} {v : V} {d : PyData} (s : Same F H) (h : DpE K F v d) : TyY K H v (.type (tyD d)) := by
  rcases h with h | ⟨rfl, h⟩
  · exact dp_ty s h
  · exact tr_d0.ty s h
def isD (u : String) (d : PyData) : Bool := tyD d == u || (u == "int" && tyD d == "bool")
theorem kit_D {d : PyData} {u : String} (hu : u ∈ ["int", "bool", "str", "list", "tuple"]) {F : Hp} {v : V} (h : DpE K F v d) : PySem.W.kitOne K (.type (tyD d)) (.type u) = some (isD u d) := by
  simp only [List.mem_cons, List.not_mem_nil, or_false] at hu
  have key : ∀ t : String, t ∈ ["NoneType", "bool", "int", "str", "list", "tuple", "dict"] → PySem.W.kitOne K (.type t) (.type u) = some (t == u || (u == "int" && t == "bool")) := fun t ht => by
    simp only [List.mem_cons, List.not_mem_nil, or_false] at ht
    rcases ht with rfl | rfl | rfl | rfl | rfl | rfl | rfl <;> rcases hu with rfl | rfl | rfl | rfl | rfl <;> exact kit_ty (by decide +kernel)
  rcases h with h | ⟨rfl, h⟩
  · cases h <;> exact key _ (by simp [tyD])
  · exact key _ (by simp [tyD])
theorem c_isiDt {u : String} (hu : u ∈ ["int", "bool", "str", "list", "tuple"] := by decide) : CaS μ (rIsiU K) (a2 (rDt K) (rTyV u)) rBl fun a => .ret (isD u a.1) := fun k F H c vs a Q w r q => by
  obtain ⟨v, x, e, r1, r2⟩ := two r
  have r2' : x = .ty u := r2
  subst r2'
  exact ⟨v, _, _, _, _, e, .ty u, dpE_ty w.sub r1, kit_D hu r1, VP.now w q rfl⟩
def dInt : PyData → Option Int
  | .int i => some i
  | _ => none
theorem e_dInt {te : TE} {m : Γ → M PyData} (h : SE μ E (rDt K) te m) : SE μ E rInt te fun ρ => (m ρ).bind fun d => M.the (dInt d) := fun k F H σ ρ c Q w e q =>
  h k F H σ ρ c Q w e (wp_imp q fun d c1 z v F' H' x w' r => by
    obtain ⟨i, ei, z⟩ := z
    cases d with
    | int j =>
      obtain rfl : j = i := Option.some.inj ei
      have : v = .int j := by
        rcases r with r | ⟨e, _⟩
        · cases r; rfl
        · cases e
      exact z v F' H' x w' this
    | _ => cases ei)
def dStr : PyData → Option Str
  | .str i => some i
  | _ => none
theorem e_dStr {te : TE} {m : Γ → M PyData} (h : SE μ E (rDt K) te m) : SE μ E rStr te fun ρ => (m ρ).bind fun d => M.the (dStr d) := fun k F H σ ρ c Q w e q =>
  h k F H σ ρ c Q w e (wp_imp q fun d c1 z v F' H' x w' r => by
    obtain ⟨i, ei, z⟩ := z
    cases d with
    | str j =>
      obtain rfl : j = i := Option.some.inj ei
      have : v = .str j := by
        rcases r with r | ⟨e, _⟩
        · cases r; rfl
        · cases e
      exact z v F' H' x w' this
    | _ => cases ei)
theorem dps_all {F : Hp} : ∀ {vs : List V} {ds : List PyData}, DpAll K F vs ds → All2 ((rDt K).r F) vs ds
  | _, _, .nil => .nil
  | _, _, .cons h t => .cons (.inl h) (dps_all t)
def dTup : PyData → Option (List PyData)
  | .tuple ds => some ds
  | _ => none
theorem e_dTup {te : TE} {m : Γ → M PyData} (h : SE μ E (rDt K) te m) : SE μ E (rTup K (rDt K)) te fun ρ => (m ρ).bind fun d => M.the (dTup d) := fun k F H σ ρ c Q w e q =>
  h k F H σ ρ c Q w e (wp_imp q fun d c1 z v F' H' x w' r => by
    obtain ⟨i, ei, z⟩ := z
    cases d with
    | tuple ds =>
      obtain rfl : ds = i := Option.some.inj ei
      refine z v F' H' x w' ?_
      rcases r with r | ⟨e, _⟩
      · cases r with
        | tup hp al => exact ⟨_, _, rfl, hp, dps_all al⟩
      · cases e
    | _ => cases ei)
def strsD : List PyData → Option (List Str)
  | [] => some []
  | .str x :: ds => (strsD ds).map (x :: ·)
  | _ :: _ => none
def dTupS : PyData → Option (List Str)
  | .tuple ds => strsD ds
  | _ => none
theorem strs_all {F : Hp} : ∀ {ds : List PyData} {vs : List V} {xs : List Str}, strsD ds = some xs → DpAll K F vs ds → All2 (rStr.r F) vs xs
  | [], _, _, e, .nil => by cases e; exact .nil
  | d :: ds, _, xs, e, .cons h t => by
    cases d with
    | str x =>
      have e : (strsD ds).map (x :: ·) = some xs := e
      obtain ⟨ys, ey, rfl⟩ := Option.map_eq_some_iff.mp e
      refine .cons ?_ (strs_all ey t)
      cases h; rfl
    | _ => cases e
theorem e_dTupS {te : TE} {m : Γ → M PyData} (h : SE μ E (rDt K) te m) : SE μ E (rTup K rStr) te fun ρ => (m ρ).bind fun d => M.the (dTupS d) := fun k F H σ ρ c Q w e q =>
  h k F H σ ρ c Q w e (wp_imp q fun d c1 z v F' H' x w' r => by
    obtain ⟨i, ei, z⟩ := z
    cases d with
    | tuple ds =>
      have ei : strsD ds = some i := ei
      refine z v F' H' x w' ?_
      rcases r with r | ⟨e, _⟩
      · cases r with
        | tup hp al => exact ⟨_, _, rfl, hp, strs_all ei al⟩
      · cases e
    | _ => cases ei)
def ndD : PyData → Bool
  | .dict [] => false
  | _ => true
theorem dps_dt {F : Hp} : ∀ {vs : List V} {ds : List PyData}, All2 ((rDt K).r F) vs ds → ds.all ndD = true → DpAll K F vs ds
  | _, _, .nil, _ => .nil
  | _ :: _, _ :: _, .cons h t, n => by
    rw [List.all_cons, Bool.and_eq_true] at n
    exact .cons (h.dp fun e => by rw [e] at n; exact Bool.noConfusion n.1) (dps_dt t n.2)
theorem e_datL {te : TE} {m : Γ → M (List PyData)} (h : SE μ E (rLs (rDt K)) te m) : SE μ E (rDt K) te fun ρ => (m ρ).bind fun xs => .need (xs.all ndD = true) (.ret (.list xs)) := fun k F H σ ρ c Q w e q =>
  h k F H σ ρ c Q w e (wp_imp q fun a c1 ⟨n, z⟩ v F' H' x w' ⟨p, vs, e1, hp, al⟩ => z v F' H' x w' (by subst e1; exact .inl (.lst (.inl (.inl hp)) (dps_dt al n))))
theorem e_d0Dt {te : TE} {m : Γ → M Unit} (h : SE μ E rD0 te m) : SE μ E (rDt K) te fun ρ => (m ρ).bind fun _ => .ret (.dict []) := fun k F H σ ρ c Q w e q =>
  h k F H σ ρ c Q w e (wp_imp q fun a c1 z v F' H' x w' r => z v F' H' x w' (.inr ⟨rfl, r⟩))
end
end PF
set_option maxHeartbeats 2000000
namespace PF
open PySem PySem.Spec PyProof.Rows L2
open LamX (CodeO TabB LamS lamEnv lamCx)
inductive LmK (P : Addr) (q : Str) (H : Hp) (ps : Array Value) (c' : Addr) : Hp → Prop
  | hit (e : ∃ pos : Pos, codeAmong pos ps.toList = some (.ref c')) : LmK P q H ps c' H
  | new {more : Array Value} (n : H c' = none) (tr : TriplesOk (ps ++ more).toList)
      (el : ∀ (pos : Pos) (cv : Value), codeAmong pos (ps ++ more).toList = some cv → codeAmong pos ps.toList = some cv ∨ cv = .ref c') : LmK P q H ps c' (upd (upd H P (.tbl (ps ++ more))) c' (CodeO c' q))
section
variable {X : Cx} {pins : List (Addr × Obj)} {σ : L2.St} {H : Hp} {s : Shared} {c P : Addr} {ps : Array Value} {params : Arguments} {body : Expr} {scope : Scope} {pos : Pos}
theorem lam_mk {Ex Qv : Value → Shared → Prop} (I : Inv X pins σ H s) (T : TabB X.base X.mg c P) (hc : X.env.code = .ref c) (at_ : H P = some (.tbl ps)) (tr : TriplesOk ps.toList)
    (el : ∀ (p : Pos) (cv : Value), codeAmong p ps.toList = some cv → ∃ c0, cv = .ref c0 ∧ H c0 = some (CodeO c0 (X.env.qual ++ "<lambda>")))
    (hd : defaultsOf params X.env = ([], [])) (cl : ∀ y ∈ scope.names, y.2 = .free → ∃ d, X.env.cells.lookup y.1 = some d)
    (next : ∀ (f c' : Addr) (pm ctv : Value) (H1 : Hp) (s' : Shared), Inv X pins σ H1 s' → LmK P (X.env.qual ++ "<lambda>") H ps c' H1 →
      s'.heap.get? f = some (PySem.W.kla_obj "<lambda>" (X.env.qual ++ "<lambda>") params body scope (cloFrom X.env.cells scope.names []) pm c' ctv) → H1 f = none → f ∉ frs X.stack → H1 c' = some (CodeO c' (X.env.qual ++ "<lambda>")) → Qv (.ref f) s') :
    wpAny (model X.prog X.w) X.A (eval (.Lambda params body scope pos) X.env) Qv Ex s := by
  have bmP := T.bm.keeps I.bk
  have objP : s.heap.get? P = some { cls := .none, data := .fields ps } := I.hok P _ at_
  have notFr : ∀ g, s.heap.objs.size ≤ g → g ∉ frs X.stack := fun g hg z =>
    (List.mem_cons.mp (I.stkSub _ z)).elim (fun e => absurd (Nat.lt_of_lt_of_le I.lt (e ▸ hg)) (Nat.lt_irrefl _)) fun e => I.nofs hg e
  refine PySem.W.kla_eval hd ?_
  rcases hf : codeAmong pos ps.toList with _ | cv
  · refine PySem.W.kla_makeFunction (mg := X.mg) (c := c) (P := P) (ps := ps) (closure_ok cl) I.ok.glob (I.mod.glob.keeps I.bk) hc (T.code.keeps I.bk) objP tr hf T.gP bmP ?_
    intro c' ctv h' tk ext big small rec tabl
    obtain ⟨d, oc, vs, t, ed, hoc, hdat, hvs⟩ := rec
    obtain rfl : c' = d := Value.ref.inj ed
    have grow : s.heap.objs.size ≤ h'.objs.size := Nat.le_of_lt (Nat.lt_of_le_of_lt big small)
    have fresh : H c' = none := I.hok.fresh big
    have lst3 : (ps ++ #[rawInt pos.line, rawInt pos.col, .ref c']).toList = ps.toList ++ [rawInt pos.line, rawInt pos.col, .ref c'] := by simp
    let h2 := h'.push (PySem.W.kla_obj "<lambda>" (X.env.qual ++ "<lambda>") params body scope (cloFrom X.env.cells scope.names []) ((X.mg "__name__").getD .none) c' ctv)
    have keep2 : ∀ {b : Addr} {o : Obj}, h'.get? b = some o → h2.get? b = some o := fun e => Heap.get?_push_of_some _ e
    have J := LamX.inv_table (t' := tk) (more := #[rawInt pos.line, rawInt pos.col, .ref c']) (h' := h2) I at_ (fun b o ne e => keep2 (ext b o ne e)) (keep2 tabl) big ⟨oc, vs, t, keep2 hoc, hdat, hvs⟩
    refine next h'.objs.size c' _ ctv _ _ J (.new fresh ?_ ?_) (Heap.get?_push_size _ rfl) ?_ (notFr _ grow) upd_same
    · rw [lst3]; exact PySem.TriplesOk_snoc _ _ _ _ tr
    · intro p cv hcv
      rw [lst3] at hcv
      exact LamX.among_app _ tr hcv
    · have nP := Nat.ne_of_gt (Nat.lt_of_lt_of_le (Heap.lt_size objP) grow)
      rw [upd_ne (Nat.ne_of_gt small), upd_ne nP]
      exact I.hok.fresh grow
  · obtain ⟨c', e, known⟩ := el pos cv hf
    subst e
    refine PySem.W.kla_makeFunctionHit (mg := X.mg) (c := c) (P := P) (ps := ps) (closure_ok cl) I.ok.glob (I.mod.glob.keeps I.bk) hc (T.code.keeps I.bk) objP tr hf bmP ?_
    intro ctv h' tk ext grow
    let h2 := h'.push (PySem.W.kla_obj "<lambda>" (X.env.qual ++ "<lambda>") params body scope (cloFrom X.env.cells scope.names []) ((X.mg "__name__").getD .none) c' ctv)
    have J : Inv X pins σ H { s with heap := h2, toks := tk } := I.kept fun b o e => Heap.get?_push_of_some _ (ext b o e)
    exact next h'.objs.size c' _ ctv H _ J (.hit ⟨pos, hf⟩) (Heap.get?_push_size _ rfl) (I.hok.fresh grow) (notFr _ grow) known
end
section
variable {X : Cx} {pins : List (Addr × Obj)} {σ : L2.St} {H : Hp} {s : Shared} {scope : Scope}
theorem lamS_has (L : LamS X.env.scope scope) (ok : X.Ok) : ∀ y ∈ scope.names, y.2 = .free → ∃ d, X.env.cells.lookup y.1 = some d := fun y hy e => (L.free y hy e).elim (fun z => ok.has _ (.inl z)) fun z => ok.has _ (.inr z)
theorem pe_thunk {CXg : CXT} {Eg : XK} {Ng : List Str} {qg : Str} {sg : Scope} {g f c' : Addr} {cdg pm ctv : Value} {params : Arguments} {body : Expr} {k i : Nat} {a : Str} {pn : List (Addr × Obj)} {xe : Value → Shared → Prop} {W : WX} {tb : XK → TE} {p1 p2 : Pos}
    (I : Inv X pins σ H s) (L : LamS X.env.scope scope) (obj : s.heap.get? f = some (PySem.W.kla_obj "<lambda>" (X.env.qual ++ "<lambda>") params body scope (cloFrom X.env.cells scope.names []) pm c' ctv)) (nf : H f = none) (nfr : f ∉ frs X.stack)
    (bnd : bindArgs (PySem.W.kla_fn "<lambda>" (X.env.qual ++ "<lambda>") params body scope (cloFrom X.env.cells scope.names []) pm (.ref c') ctv) ⟨[], []⟩ = pure [])
    (tk : Takes ((cxOf CXg X.prog X.w X.K X.mg X.base Ng qg sg g cdg X.A X.stack s H Eg).tr pn xe) W) (room : Room (k + 1) (X.A.deeper (envOfC qg sg s.heap.objs.size g cdg)))
    (run : ∀ (A : Around) (outer : List Env) (s : Shared) (H : Hp) (E : XK), Room k (A.deeper (lamEnv X scope s.heap.objs.size f c')) → PE (lamCx X A outer s H E scope f c') body (tb E))
    (hN : Ng[i]? = some a) (hv : Vis sg a) (hd : (a == ("__debug__" : Str)) = false) (hcd : (a == ("__classdict__" : Str)) = false) :
    PE ((cxOf CXg X.prog X.w X.K X.mg X.base Ng qg sg g cdg X.A X.stack s H Eg).tr pn xe) (.Call (.Name a p1) [] [] p2)
      (fun τ HZ Q => τ[i]? = some (some (.ref f)) ∧ HZ c' = some (CodeO c' (X.env.qual ++ "<lambda>")) ∧ tb (WE W τ) σ HZ Q) := by
  constructor
  intro pz sz τ HZ Q IZ ⟨slot, code, q⟩
  refine wpAny_Call_Name_kw (thn ((pe_var (pos := p1) (i := i) hN hv hd hcd).run pz sz τ HZ (fun v H1 => v = .ref f ∧ H1 = HZ) IZ ⟨.ref f, slot, rfl, rfl⟩) ?_)
  rintro u s1 ⟨v, H1, J, r, e1, e2⟩
  subst e1 e2
  obtain rfl : u = Value.ref f := r
  have obj1 := J.base.keep f _ obj nf nfr fun z => nomatch (show f ∈ ([] : List Addr) from z)
  obtain ⟨⟨oc, vs, t, hoc, hdat, hvs⟩, _, _⟩ := J.hok c' _ code
  have whole : codeAny (model X.prog X.w) (X.A.deeper (envOfC qg sg s.heap.objs.size g cdg)) (.call (.ref f) ⟨[], []⟩)
      (CR (L2.CX X.prog X.w) (envOfC qg sg s.heap.objs.size g cdg :: X.stack) X.prog X.w H1 s1 Q (WE W τ)) s1 := by
    refine PySem.W.kla_callFunE room.depth obj1 rfl L.co L.gen rfl ⟨c', oc, vs, t, rfl, hoc, hdat, hvs⟩ ?_
    rw [bnd]
    refine wpAny_pure (wpAny_newFunctionEnv (fun y hy => (L.own y hy).2) (fun y hy => nomatch hy) (fun hn nsn but => ⟨J.nolimit.fresh _ but, ?_⟩) L.kind)
    have kp : ∀ b o, s1.heap.get? b = some o → hn.get? b = some o := fun b o e =>
      but.extBut b o (Nat.ne_of_lt (Heap.lt_size e)) (Heap.get?_push_of_some _ e)
    have J0 := LamX.lam_start2 (E := WE W τ) (c' := c') (f := f) (tk := s1.toks + ([] : List (Str × Value)).length) I L J.env0 room.hd J.base nsn kp
    refine PySem.W.kla_codeExpr (wpAny_mono ((run _ _ s1 H1 (WE W τ) (room.deeper _)).run [] _ _ H1 Q J0 q) ?_ fun e s' z => z)
    rintro v s' ⟨w', H', J', rv, z⟩
    exact ⟨w', H', J'.os, J'.bare, J'.base, J'.hok, rv, z⟩
  have pas := passAt tk τ
  refine PySem.W.callWith_F0 ⟨_, _, _, _, obj1⟩ (wpAny_call (codeAny_mono whole ?_))
  rintro (e | fl) s' z
  · exact pas pz H1 s1 e s' J z
  · cases fl with
    | ret u => exact J.after z
    | next => exact z.elim
    | brk => exact z.elim
    | cont => exact z.elim
end
def Gives (P : Program) (w : World) (K : PySem.W.Frag) (mg : Str → Option Value) (base : Heap) (A : Around) (stack : List Env) (Ng : List Str) (x : Str) (sg : Scope) (g : Addr) (cdg : Value) (bg : List Stmt) (a q : Str) (TT : Addr → (XK → Hp → VK → Prop) → Hp → VK → Prop) : Prop :=
  ∀ (f c' : Addr) (s : Shared) (H : Hp) (Q : VK) (tl : XK → Hp → VK → Prop),
    (∀ (W : WX) (pn : List (Addr × Obj)) (xe : Value → Shared → Prop) (p1 p2 : Pos), Takes ((cxOf C8.CX0 P w K mg base Ng x sg g cdg A stack s H C8.E0).tr pn xe) W →
      PE ((cxOf C8.CX0 P w K mg base Ng x sg g cdg A stack s H C8.E0).tr pn xe) (.Call (.Name a p1) [] [] p2) (fun τ HZ Q => τ[0]? = some (some (.ref f)) ∧ HZ c' = some (CodeO c' q) ∧ tl (WE W τ) HZ Q)) →
    Room 6 (A.deeper (envOfC x sg s.heap.objs.size g cdg)) → H c' = some (CodeO c' q) → TT c' tl H Q →
    ∃ t, PSs (cxOf C8.CX0 P w K mg base Ng x sg g cdg A stack s H C8.E0).nox bg t ∧ t { nx := fun _ H' => Q .non H', rt := Q } (L2.start Ng [.ref f]) H
def tLm (P : Addr) (q : Str) (TT : Addr → (XK → Hp → VK → Prop) → Hp → VK → Prop) (t : XK → TE) : TE := fun σ H Q => ∃ ps : Array Value, H P = some (.tbl ps) ∧ TriplesOk ps.toList ∧
  (∀ (p : Pos) (cv : Value), codeAmong p ps.toList = some cv → ∃ c0, cv = .ref c0 ∧ H c0 = some (CodeO c0 q)) ∧ ∀ c' H1, LmK P q H ps c' H1 → TT c' (fun E H' Q' => t E σ H' Q') H1 Q
section
variable {X : Cx}
theorem pe_lm {TT : Addr → (XK → Hp → VK → Prop) → Hp → VK → Prop} {x a : Str} {g c P : Addr} {k : Nat} {pg : Arguments} {bg : List Stmt} {sg : Scope} {dV kV doc pm cdv ct oc : Value} {an od : Option Addr} {osl : Array (Option Value)} {Ng : List Str}
    {params : Arguments} {body : Expr} {scope : Scope} {t : XK → TE} {p lpos pos : Pos} (gl : Gl X x) (hm : X.mg x = some (.ref g)) (kp : PySem.W.keepIn X.K (.ref g) = true)
    (lk : X.K.lookup g = some ⟨oc, od, .func (PySem.W.fnOf x x pg bg sg dV kV doc pm an cdv ct), osl⟩) (cd : PySem.W.codeIn X.K cdv x = true) (bn : L2.Binds X.K (PySem.W.fnOf x x pg bg sg dV kV doc pm an cdv ct) [a] []) (Sg : FnScope Ng [a] sg) (n0 : Ng[0]? = some a) (va : Vis sg a)
    (G : Gives X.prog X.w X.K X.mg X.base X.A X.stack Ng x sg g cdv bg a (X.env.qual ++ "<lambda>") TT) (T : TabB X.base X.mg c P) (hc : X.env.code = .ref c) (room : Room (k + 8) X.A) (L : LamS X.env.scope scope) (dfl : defaultsOf params X.env = ([], []))
    (bnd : ∀ (q : Str) (cl : List (Str × Addr)) (pm cv ctv : Value), bindArgs (PySem.W.kla_fn "<lambda>" q params body scope cl pm cv ctv) ⟨[], []⟩ = pure [])
    (run : ∀ (A : Around) (outer : List Env) (s : Shared) (H : Hp) (E : XK) (f c' : Addr), Room (k + 6) (A.deeper (lamEnv X scope s.heap.objs.size f c')) → PE (lamCx X A outer s H E scope f c') body (t E))
    (db : (x == ("__debug__" : Str)) = false) (hd : (a == ("__debug__" : Str)) = false) (hcd : (a == ("__classdict__" : Str)) = false) :
    PE X (.Call (.Name x p) [.Lambda params body scope lpos] [] pos) (tLm P (X.env.qual ++ "<lambda>") TT t) := by
  constructor
  rintro pins s σ H Q I ⟨ps, at_, tr, el, h⟩
  refine wpAny_Call_Name_kw (ld_glob I gl hm ?_ db)
  refine PySem.W.callWith_K (h₀ := X.base) I.ok.mod.kin kp ?_ (by rfl) (by rfl)
  show wpAny _ _ (spliced ((false, eval (.Lambda params body scope lpos) X.env) :: backTo pos (starEach [] X.env))) _ _ s
  refine Calls.spliced_cons (lam_mk I T hc at_ tr el dfl (lamS_has L I.ok) ?_)
  intro f c' pm' ctv H1 s' J lm obj nf nfr code
  refine Calls.spliced_nil ⟨J.kIn, ?_⟩
  have whole : codeAny (model X.prog X.w) X.A (.call (.ref g) ⟨[.ref f], []⟩) (CR C8.CX0 X.stack X.prog X.w H1 s' Q C8.E0) s' := by
    refine LamX.run_ofS (N := Ng) (ps := [a]) (us := [.ref f]) (vs := [.ref f]) lk cd Sg room J.env0 (bn s' [.ref f] J.kIn rfl) (.cons rfl .nil) rfl fun room' => ?_
    refine (G f c' s' H1 Q (fun E H' Q' => t E σ H' Q') (fun W pn xe p1 p2 tk => ?_) (room'.mono (by omega)) code (h c' H1 lm)).imp fun t z => ⟨z.1.nox, z.2⟩
    exact pe_thunk (i := 0) (k := k + 6) J L obj nf nfr (bnd _ _ _ _ _) tk room' (fun A outer s H E hr => run A outer s H E f c' hr) n0 va hd hcd
  refine wpAny_call (codeAny_mono whole ?_)
  rintro (e | fl) s2 z
  · exact (show False from z).elim
  · cases fl with
    | ret u => exact J.after z
    | next => exact z.elim
    | brk => exact z.elim
    | cont => exact z.elim
end
end PF
set_option maxHeartbeats 1000000
namespace PF
open PySem PySem.Spec PyProof.Rows L2 SlX
def rAny : Rp Unit := ⟨fun _ _ _ => True, fun _ h => h⟩
theorem se_any {Γ α : Type} {μ : Md} {E : EV Γ} {Ra : Rp α} {te : TE} {m : Γ → M α} (h : SE μ E Ra te m) : SE μ E rAny te fun ρ => (m ρ).bind fun _ => .ret () := fun k F H σ ρ c Q w e q => h k F H σ ρ c Q w e (wp_imp q fun _ _ z v F' H' x w' _ => z v F' H' x w' trivial)
section
variable {K : PySem.W.Frag} {mg : Str → Option Value} {fl : Str → Option Str}
def ThOk (K : PySem.W.Frag) (mg : Str → Option Value) (fl : Str → Option Str) (tl : XK → Hp → VK → Prop) (F : Hp) (m : M Unit) : Prop := ∀ (XE : XK) (F1 H1 : Hp) (Q : VK), Same F F1 → Same F1 H1 →
  m.wp 0 (fun _ _ => ∀ v F' H', ExtX none F1 H1 F' H' → Q v H') (fun e => ∀ cls d F' H', ExtX none F1 H1 F' H' → ZE K mg fl F' e cls d → XE cls d H') → tl XE H1 Q
theorem ThOk.st {tl : XK → Hp → VK → Prop} {F F' : Hp} {m : M Unit} (s : Same F F') (h : ThOk K mg fl tl F m) : ThOk K mg fl tl F' m := fun XE F1 H1 Q a b q => h XE F1 H1 Q (s.trans a) b q
def sThk (K : PySem.W.Frag) (mg : Str → Option Value) (fl : Str → Option Str) (f c' : Addr) (q : Str) (tl : XK → Hp → VK → Prop) : SR (M Unit) :=
  ⟨fun _ _ F _ o m => o = some (.ref f) ∧ F c' = some (LamX.CodeO c' q) ∧ ThOk K mg fl tl F m, fun _ => none, fun x ⟨e, h, t⟩ => ⟨e, x.fz _ _ h, t.st x.fz⟩, fun _ _ h => h, fun s _ _ ⟨e, h, t⟩ => ⟨e, s _ _ h, t.st s⟩, fun _ e => nomatch e⟩
section
variable {Γ Γ' Δ α β γ : Type} {E : EV Γ} {E' : EV Γ'} {El : EV Δ} {R : Rp γ} {f c' : Addr} {q : Str} {tl : XK → Hp → VK → Prop}
theorem set_thunk {i : Nat} {g : Γ → M Unit} (hg : GetS E i (sThk K mg fl f c' q tl) g) : SETF K mg fl E rAny (fun W τ HZ Q => τ[i]? = some (some (.ref f)) ∧ HZ c' = some (LamX.CodeO c' q) ∧ tl (WE W τ) HZ Q) fun ρ => (g ρ).still := fun k F H σ ρ c Q W w e h => by
  obtain ⟨o, h1, h2, h3, h4⟩ := hg.get e.r
  subst h2
  refine ⟨h1, w.sub _ _ h3, h4 _ F H Q (Same.refl F) w.sub ((g ρ).mono 0 (fun a d z v F' H' x => ?_) (fun er z cls d F' H' x hz => z cls d F' H' x hz) h)⟩
  exact z v F' H' (w.call x).1 (w.call x).2 trivial
end
def TTw {γ : Type} (K : PySem.W.Frag) (mg : Str → Option Value) (fl : Str → Option Str) (q : Str) (R : Rp γ) (mw : M Unit → M γ) : Addr → (XK → Hp → VK → Prop) → Hp → VK → Prop := fun c' tl H Q => ∃ F m, Same F H ∧ F c' = some (LamX.CodeO c' q) ∧ ThOk K mg fl tl F m ∧
  (mw m).wp 0 (fun b _ => ∀ v F' H', ExtX none F H F' H' → R.r F' v b → Q v H') (fun _ => False)
theorem fn_bodyL {γ Γ Γ' : Type} {R : Rp γ} {E : EV Γ} {E' : EV Γ'} {n : Nat} {ρ0 : Γ} {Ng : List Str} {t : TS} {mb : M Unit → Γ → M (Ct Γ' Unit γ)} {f c' : Addr} {q : Str} {tl : XK → Hp → VK → Prop} {H : Hp} {Q : VK}
    (h0 : St0 aNil n E fun _ => ρ0) (hn : Ng.length = n + 1) (hb : SS md0 (eCons (sThk K mg fl f c' q tl) E) E' eNil R t fun ρ => mb ρ.1 ρ.2) (ht : TTw K mg fl q R (fun m => (mb m ρ0).fin) c' tl H Q) :
    t { nx := fun _ H' => Q .non H', rt := Q } (L2.start Ng [.ref f]) H := by
  obtain ⟨F, m, s, hc, th, h⟩ := ht
  rw [start_eq (n := n) (by rw [hn]; show n + 1 = 1 + n; omega)]
  refine hb ⟨none, F, H⟩ F H _ (m, ρ0) 0 _ ⟨s, ExtX.refl s, fun _ e => nomatch e⟩ ⟨⟨some (.ref f), List.replicate n none, rfl, ⟨rfl, hc, th⟩, h0.r (vs := []) (a := ()) rfl⟩, ?_⟩ ?_
  · show ([] ++ E.owns (List.replicate n none)).Nodup
    rw [h0.ow]; exact List.nodup_nil
  · refine (mb m ρ0).mono 0 (fun t c z => ?_) (fun er z => z.elim) h
    cases t with
    | nx _ => exact z.elim
    | rt b => exact fun v F' H' w r => z v F' H' w.ext r
    | bk _ => exact z.elim
    | ct _ => exact z.elim
def eTab : EV Unit where
  r := fun _ _ F H σ _ => σ = [] ∧ TbA F H
  owns := fun _ => []
  step := fun x ⟨e, h⟩ => ⟨e, x.tb h⟩
  upd := fun {p H0 F H σ ρ D x} _ nw ⟨e, h⟩ => ⟨e, fun t ht => (h t ht).go (h t ht).1 (fun o z => by
    have ne : t.1 ≠ D := nw.elim (fun n => (h t ht).ne n) fun ⟨o, ho, l⟩ => (h t ht).nd ho (by cases o <;> first | rfl | cases l)
    rw [upd_ne ne]; exact z) (Same.refl F)⟩
  fz := fun {p H0 F H σ ρ D x} s _ nw ⟨e, h⟩ => ⟨e, fun t ht => (h t ht).go (by
    have ne : t.1 ≠ D := nw.elim (fun n => (h t ht).ne n) fun ⟨o, ho, l⟩ => (h t ht).nd ho (by cases o <;> first | rfl | cases l)
    rw [upd_ne ne]; exact (h t ht).1) (fun _ z => z) s⟩
  has := fun _ h => nomatch h
structure HasT {Γ : Type} (E : EV Γ) : Prop where
  t : ∀ {p : Option Addr} {H0 F H : Hp} {σ : L2.St} {ρ : Γ}, E.r p H0 F H σ ρ → TbA F H
theorem hasT0 : HasT eTab := ⟨fun h => h.2⟩
theorem hasTS {Γ α : Type} {E : EV Γ} {S : SR α} (h : HasT E) : HasT (eCons S E) := ⟨fun ⟨_, _, _, _, t⟩ => h.t t⟩
structure PlV {Γ Γ' : Type} (E : EV Γ) (E' : EV Γ') (f : Γ → Γ') : Prop where
  r : ∀ {p : Option Addr} {H0 F H : Hp} {σ : L2.St} {ρ : Γ}, E.r p H0 F H σ ρ → ∀ {p' : Option Addr} {H0' F1 H1 : Hp}, Same F F1 → E'.r p' H0' F1 H1 σ (f ρ)
  ow : ∀ σ, E'.owns σ = []
theorem plv_tab : PlV eTab eNil id := ⟨fun h _ _ _ _ _ => h.1, fun _ => rfl⟩
theorem plv_val {Γ Γ' α : Type} {E : EV Γ} {E' : EV Γ'} {Ra : Rp α} {f : Γ → Γ'} (h : PlV E E' f) : PlV (eCons (sVal Ra) E) (eCons (sVal Ra) E') fun ρ => (ρ.1, f ρ.2) :=
  ⟨fun ⟨o, τ, e, ⟨v, eo, r⟩, t⟩ _ _ _ _ s => ⟨o, τ, e, ⟨v, eo, Ra.st s r⟩, h.r t s⟩, fun σ => by
    cases σ with
    | nil => rfl
    | cons o τ => exact h.ow τ⟩
theorem plv_un {Γ Γ' α : Type} {E : EV Γ} {E' : EV Γ'} {S : SR α} {f : Γ → Γ'} (h : PlV E E' f) : PlV (eCons S E) (eCons sUn E') fun ρ => ((), f ρ.2) :=
  ⟨fun ⟨o, τ, e, r, t⟩ _ _ _ _ s => ⟨o, τ, e, trivial, h.r t s⟩, fun σ => by
    cases σ with
    | nil => rfl
    | cons o τ => exact h.ow τ⟩
theorem e_lam {Γ Γ' γ : Type} {E : EV Γ} {E' : EV Γ'} {R : Rp γ} {P : Addr} {q : Str} {f : Γ → Γ'} {t : XK → TE} {mb : Γ' → M Unit} {mw : M Unit → M γ} (hP : (P, q) ∈ tbN) (un : ∀ p ∈ tbN, p.1 = P → p.2 = q) (hT : HasT E) (pl : PlV E E' f)
    (hb : ∀ XE, SE (mdF K mg fl XE) E' rAny (t XE) mb) : SE md0 E R (tLm P q (TTw K mg fl q R mw) t) fun ρ => (mw (mb (f ρ))).still := fun k F H σ ρ c Q w e h => by
  have ta := hT.t e.r
  obtain ⟨fP, ps, at_, tr, el⟩ := ta _ hP
  dsimp only at fP at_
  -- the body, wherever F still stands
  have th : ∀ {F1 : Hp}, Same F F1 → ThOk K mg fl (fun E H' Q' => t E σ H' Q') F1 (mb (f ρ)) := fun {F1} s XE F2 H2 Q2 a b z => by
    refine hb XE ⟨none, F2, H2⟩ F2 H2 σ (f ρ) 0 Q2 ⟨b, ExtX.refl b, fun _ e => nomatch e⟩ ⟨pl.r e.r (s.trans a), by rw [pl.ow]; exact List.nodup_nil⟩ ?_
    refine (mb (f ρ)).mono 0 (fun _ d y v F' H' x _ _ => y v F' H' x) (fun er y cls d F' H' x hz => y cls d F' H' x hz) z
  have h : (mw (mb (f ρ))).wp 0 (fun a _ => VP k F H R Q a c) (XP md0 k) := h
  have h := (mw (mb (f ρ))).mono 0 (Y := fun _ => False) (fun _ _ z => z) (fun _ z => XP.no w z) h
  refine ⟨ps, at_, tr, fun p cv hcv => ?_, fun c' H1 lm => ?_⟩
  · obtain ⟨c0, e0, hc⟩ := el p cv hcv
    exact ⟨c0, e0, w.sub _ _ hc⟩
  · cases lm with
    | hit e0 =>
      obtain ⟨pos, hpos⟩ := e0
      obtain ⟨c0, e1, hc⟩ := el pos _ hpos
      cases e1
      refine ⟨F, mb (f ρ), w.sub, hc, th (Same.refl F), (mw (mb (f ρ))).mono 0 (fun b _ z v F' H' x r => ?_) (fun _ z => z) h⟩
      exact z v F' H' (w.call x).1 (w.call x).2 r
    | @new more n tr2 el2 =>
      have nP : P ≠ c' := ne_of_none at_ n
      have fn : F c' = none := w.sub.free n
      have sF : Same F (upd F c' (LamX.CodeO c' q)) := same_upd fn
      have hF : upd F c' (LamX.CodeO c' q) c' = some (LamX.CodeO c' q) := upd_same
      have x : ExtX k.p F H (upd F c' (LamX.CodeO c' q)) (upd (upd H P (.tbl (ps ++ more))) c' (LamX.CodeO c' q)) := by
        refine ⟨sF, fun b o z => ?_, fun b o _ nt z => ?_, fun b nb => ?_, fun b nb => ?_, fun ta p hp => ?_⟩
        · by_cases y : b = c'
          · subst y; rw [upd_same] at z ⊢; exact z
          · rw [upd_ne y] at z
            have yP : b ≠ P := fun y => by rw [y, fP] at z; cases z
            rw [upd_ne y, upd_ne yP]; exact w.sub _ _ z
        · have yP : b ≠ P := fun y => by rw [y, at_] at z; cases z; cases nt
          rw [upd_ne (ne_of_none z n), upd_ne yP]; exact z
        · exact upd_ne fun y => nb (by rw [y]; exact n)
        · have y : b ≠ c' := fun y => nb (by rw [y]; exact n)
          rw [upd_ne y]
          by_cases yP : b = P
          · rw [yP, upd_same]; simp
          · rw [upd_ne yP]; exact nb
        · by_cases y : p.1 = P
          · have eq : p.2 = q := un p hp y
            obtain ⟨P', q'⟩ := p
            dsimp only at y eq ⊢
            subst y eq
            refine ⟨by rw [upd_ne nP]; exact fP, ps ++ more, by rw [upd_ne nP, upd_same], tr2, fun pos cv hcv => ?_⟩
            rcases el2 pos cv hcv with z | z
            · obtain ⟨c0, e1, hc⟩ := el pos cv z
              exact ⟨c0, e1, sF _ _ hc⟩
            · exact ⟨c', z, hF⟩
          · have ne : p.1 ≠ c' := (ta p hp).ne n
            exact (ta p hp).go (by rw [upd_ne ne]; exact (ta p hp).1) (fun o z => by rw [upd_ne ne, upd_ne y]; exact z) sF
      have w1 : Wo k (upd F c' (LamX.CodeO c' q)) (upd (upd H P (.tbl (ps ++ more))) c' (LamX.CodeO c' q)) c := by
        refine ⟨x.sub, w.ext.trans x, fun a ea => ?_⟩
        obtain ⟨d1, d2, d0, d4, d5, hd, d6⟩ := w.dice a ea
        have na : a ≠ c' := ne_of_none hd n
        have nb : a ≠ P := fun y => by rw [y, at_] at hd; cases hd
        exact ⟨by rw [upd_ne na]; exact d1, d2, d0, d4, d5, by rw [upd_ne na, upd_ne nb]; exact hd, d6⟩
      refine ⟨_, mb (f ρ), x.sub, hF, th sF, (mw (mb (f ρ))).mono 0 (fun b _ z v F' H' y r => ?_) (fun _ z => z) h⟩
      exact z v F' H' (x.trans (w1.call y).1) (w1.call y).2 r
def spOfDT {α β : Type} (S : RA α) (R : Rp β) (m : α → M β) : Sp := fun vs H Q _ => ∃ F p ws a c, vs = .ref p :: ws ∧ Same F H ∧ TbA F H ∧ F p = none ∧ Dice p H c ∧ S.r F ws a ∧
  (m a).wp c (fun b c' => ∀ v F' H', ExtX (some p) F H F' H' → F' p = none → Dice p H' c' → R.r F' v b → Q v H') (fun _ => False)
section
variable {Γ Γ' α β γ : Type} {E : EV Γ} {E' : EV Γ'} {R : Rp γ}
structure StT (S : RA α) (n : Nat) (E : EV Γ) (ρ0 : α → Γ) : Prop where
  r : ∀ {p : Option Addr} {H0 F H : Hp} {vs : List V} {a : α}, TbA F H → S.r F vs a → E.r p H0 F H (vs.map some ++ List.replicate n none) (ρ0 a)
  ow : ∀ σ, E.owns σ = []
theorem stt_nil : StT aNil 0 eTab fun _ => () := ⟨fun t h => by subst h; exact ⟨rfl, t⟩, fun _ => rfl⟩
theorem stt_un {n : Nat} {ρ0 : Unit → Γ} (h : StT aNil n E ρ0) : StT aNil (n + 1) (eCons sUn E) fun a => ((), ρ0 a) := ⟨fun {p H0 F H vs a} t z => by
  have z' : vs = [] := z
  subst z'
  exact ⟨none, List.replicate n none, rfl, trivial, h.r (F := F) (vs := []) t z⟩, fun σ => by
  cases σ with
  | nil => rfl
  | cons o τ => exact h.ow τ⟩
structure StDT (S : RA α) (n : Nat) (E : EV Γ) (ρ0 : α → Γ) : Prop where
  r : ∀ {p : Addr} {H0 F H : Hp} {vs : List V} {a : α}, TbA F H → S.r F vs a → E.r (some p) H0 F H ((.ref p :: vs).map some ++ List.replicate n none) (ρ0 a)
  ow : ∀ σ, E.owns σ = []
theorem stt_dice {S : RA β} {n : Nat} {ρ0 : β → Γ} (h : StT S n E ρ0) : StDT S n (eCons sDice E) fun a => ((), ρ0 a) := ⟨fun {p H0 F H vs a} t z => ⟨_, vs.map some ++ List.replicate n none, rfl, ⟨p, rfl, rfl⟩, h.r t z⟩, fun σ => by
  cases σ with
  | nil => rfl
  | cons o τ => exact h.ow τ⟩
theorem fn_bodyDT {S : RA α} {n : Nat} {ρ0 : α → Γ} {N : List Str} {t : TS} {mb : Γ → M (Ct Γ' Unit γ)} (h0 : StDT S n E ρ0) (hn : N.length = S.n + 1 + n) (hb : SS md0 E E' eNil R t mb) {vs : List V} {H : Hp} {Q : VK} {X : XK}
    (hs : spOfDT S R (fun a => (mb (ρ0 a)).fin) vs H Q X) : t { nx := fun _ H' => Q .non H', rt := Q } (L2.start N vs) H := by
  obtain ⟨F, p, ws, a, c, rfl, s, ta, f, d, r, h⟩ := hs
  rw [start_eq (n := n) (by rw [hn, List.length_cons, S.len r])]
  have hp : H p ≠ none := by obtain ⟨_, _, _, z, _⟩ := d; rw [z]; simp
  refine hb ⟨some p, F, H⟩ F H _ (ρ0 a) c _ ⟨s, ExtX.refl s, fun q e => by cases e; exact ⟨f, hp, d⟩⟩ ⟨h0.r ta r, by rw [h0.ow]; exact List.nodup_nil⟩ ?_
  refine (mb (ρ0 a)).mono c (fun t c z => ?_) (fun er z => z.elim) h
  cases t with
  | nx _ => exact z.elim
  | rt b => exact fun v F' H' w r => z v F' H' w.ext (w.dice p rfl).1 (w.dice p rfl).2.2 r
  | bk _ => exact z.elim
  | ct _ => exact z.elim
end
end
end PF
namespace PF
open PySem PySem.Spec PyProof.Rows L2
def offI (oi : Option Nat) (D : Ends) : Ends := match oi with
  | none => D
  | some i => { nx := fun τ G => D.nx (τ.set i none) G, rt := D.rt, bk := fun τ G => D.bk (τ.set i none) G, ct := fun τ G => D.ct (τ.set i none) G }
def setI (oi : Option Nat) (a : Addr) (σ : L2.St) : L2.St := match oi with
  | none => σ
  | some i => σ.set i (some (.ref a))
abbrev Cls := Value × Option Nat × (Addr → Value → Option Addr → TS)
def wMix (K : PySem.W.Frag) (Wout : WX) (D : Ends) : List Cls → WX
  | [] => Wout
  | (c, oi, ts) :: r => fun cls d σ H => ∃ b, PySem.W.exmOne K cls c = some b ∧ (b = true → ∀ a, H a = none → ts a cls d (offI oi D) (setI oi a σ) H) ∧ (b = false → wMix K Wout D r cls d σ H)
def SuOk (X : Cx) (su : List Stmt) (ts : Addr → Value → Option Addr → TS) : Prop :=
  ∀ (a : Addr) (oe : Obj) (cls : Value) (d : Option Addr) (pn : List (Addr × Obj)), Zc cls d oe → (∃ vs, oe.data = .fields vs) → PSs (X.suite a ((a, oe) :: pn)) su (ts a cls d)
inductive HdsM (X : Cx) : List ExceptHandler → List Cls → Prop
  | nil : HdsM X [] []
  | one {x : Str} {c : Value} {ts : Addr → Value → Option Addr → TS} {u : Stmt} {us : List Stmt} {p p' : Pos} {hds : List ExceptHandler} {l : List Cls} (hc : Names X x c) (su : SuOk X (u :: us) ts) (r : HdsM X hds l) :
      HdsM X (.ExceptHandler (some (.Name x p)) none (u :: us) p' :: hds) ((c, none, ts) :: l)
  | as_ {x n : Str} {i : Nat} {c : Value} {ts : Addr → Value → Option Addr → TS} {u : Stmt} {us : List Stmt} {p p' : Pos} {hds : List ExceptHandler} {l : List Cls} (hN : X.N.Nodup) (hi : X.N[i]? = some n) (hl : X.env.kindOf n = some .local)
      (hc : Names X x c) (su : SuOk X (u :: us) ts) (r : HdsM X hds l) : HdsM X (.ExceptHandler (some (.Name x p)) (some n) (u :: us) p' :: hds) ((c, some i, ts) :: l)
section
variable {X : Cx} {body : List Stmt} {hd : ExceptHandler} {hds : List ExceptHandler} {l : List Cls} {pos : Pos} {tb : WX → TS} {Wout : WX}
theorem names_at {x : Str} {c : Value} {p : Pos} {a : Addr} {oe : Obj} {pins pn : List (Addr × Obj)} {τ : L2.St} {G : Hp} {s : Shared} (hc : Names X x c) (S : Inv (X.suite a ((a, oe) :: pn)) pins τ G s) {Q E : Value → Shared → Prop} (q : Q c s) :
    wpAny (model X.prog X.w) (X.A.mark (some (.ref a))) (eval (.Name x p) X.env) Q E s := by
  obtain ⟨g, db, m | ⟨m, v, nn⟩⟩ := hc
  · exact ld_glob (X := X.suite a ((a, oe) :: pn)) S g m q db
  · exact ld_blt (X := X.suite a ((a, oe) :: pn)) S g m v q nn db
theorem ps_try_mix (top : X.stack = X.env :: X.outer) (fr : X.env.frame = some X.env.locals) (tk : Takes X Wout)
    (hb : ∀ (W : WX) (pn : List (Addr × Obj)) (xe : Value → Shared → Prop), Takes (X.tr pn xe) W → PassesOwn (model X.prog X.w) X.A X.env xe → PSs (X.tr pn xe) body (tb W))
    (ok_ : HdsM X (hd :: hds) l) : PS X (.Try body (hd :: hds) [] [] pos) (fun D σ H => tb (wMix X.K Wout D l) D σ H) := by
  constructor
  intro pins s σ H D I h
  have frs_ : X.A.frames = some (X.env :: X.outer) := I.ok.frames.trans (congrArg some top)
  refine wpAny_Try_except (wpAny_mono ((hb (wMix X.K Wout D l) (X.pn ++ pins)
    (fun e t₁ => wpAny (model X.prog X.w) X.A (noteFrame e X.env) (fun _ t₂ => wpAny (model X.prog X.w) X.A (setFlight e none)
      (fun _ t₃ => wpAny (model X.prog X.w) X.A (handleBy e X.env (hd :: hds)) (L2.SP X pins D) X.xe t₃) X.xe t₂) X.xe t₁) ?_ PassesOwn.looking).run [] s σ H D (I.toTry _) h) ?_ fun _ _ z => z)
  · rintro u t ⟨a, B, tI, pz, τ, G, cls, d, rfl, Jt, notB, up, sky, newA, os_, ag, want⟩
    have J := Jt.ofTry I.ok
    have sky2 : Sky B (X.env :: X.outer) a (Zc cls d) X.env.locals t.heap := top ▸ sky
    change wpAny (model X.prog X.w) X.A (noteFrame (.ref a) X.env) _ _ _
    refine Sky.land Zc.steady frs_ fr sky2 fun g fly up2 => ?_
    have Jg : Inv X pins τ G { t with heap := g } := J.landed notB fly.1 (up.trans up2) os_ ag
    obtain ⟨oe, vs, at_, zc, dat⟩ := fly.there
    have off : a ∉ frs (X.env :: X.outer) := fun m => by
      obtain ⟨_, o', e', no⟩ := fly.2.2.1.mem m
      cases at_.symm.trans e'
      exact no _ dat
    have offL : a ≠ X.env.locals := fun z => off (List.mem_filterMap.mpr ⟨X.env, List.mem_cons_self, fr.trans (congrArg some z.symm)⟩)
    have offF : a ∉ X.fs := fun m => by
      obtain ⟨e, he, q⟩ := List.mem_filterMap.mp m
      exact off (List.mem_filterMap.mpr ⟨e, List.mem_cons_of_mem _ he, q⟩)
    have Sg := Jg.suite at_ dat newA offL offF
    have looks : PySem.W.Looks (model X.prog X.w) g (typeOf (.ref a)) cls := fun A Q E s k q => wpAny_typeOf_ref (k _ _ at_) (by rw [zc.1]; exact q)
    have all : ∀ {hs : List ExceptHandler} {ls : List Cls}, HdsM X hs ls → wMix X.K Wout D ls cls d τ G → wpAny (model X.prog X.w) X.A (handleBy (.ref a) X.env hs) (L2.SP X pins D) X.xe { t with heap := g } := by
      intro hs ls k
      induction k with
      | nil =>
        intro w
        obtain ⟨_, _, _, o2, v2, T, oT, ts', e2, _, d2, f2, _⟩ := id fly
        have last : wpAny (model X.prog X.w) X.A (setFlight (.ref a) X.env.frame) (fun _ s4 => wpAny (model X.prog X.w) X.A (throw (.ref a) : Sem Flow) (L2.SP X pins D) X.xe s4) X.xe { t with heap := g } := by
          rw [fr]
          exact HandSPX.setFlight_upZ fly fun _ fly4 up4 => wpAny_throw (tk _ _ ⟨a, B, tI, pins, τ, G, cls, d, rfl, J, notB, (up.trans up2).trans up4, .inr (.inr (top.symm ▸ fly4)), newA, os_, ag, w⟩)
        refine wpAny_handleBy_nil ?_
        unfold PySem.passOn
        refine wpAny_bind (wpAny_field e2 d2 f2 ?_)
        rw [if_neg (show ¬ ((Value.ref T == Value.none) = true) by simp)]
        first
          | exact wpAny_bind (wpAny_pure (wpAny_bind last))
          | exact wpAny_bind last
      | @one x c ts u us p p' hs2 l2 hc su r ih =>
        rintro ⟨b, eb, yes, no⟩
        refine wpAny_handleBy_cons (codeAny_handlers_test ?_) (fun q => nomatch q)
        refine names_at hc Sg ((PySem.W.exm_one (M := model X.prog X.w) Jg.kIn looks eb).here ?_)
        rcases b with _ | _
        · exact ih (no rfl)
        · refine codeAny_handlers_suite (HandSPX.lands_againZ fly fun g4 fly4 up4 => ?_)
          obtain ⟨oe4, vs4, at4, zc4, dat4⟩ := fly4.there
          have J4 : Inv X pins τ G { t with heap := g4 } := J.landed notB fly4.1 ((up.trans up2).trans up4) os_ ag
          refine wpAny_mono ((su a oe4 cls d (X.pn ++ pins) zc4 ⟨_, dat4⟩).run [] _ _ G _ (J4.suite at4 dat4 newA offL offF) (yes rfl a newA)) ?_ fun _ _ z => z.elim
          rintro (_ | _ | _ | v) s6 z
          · exact z.elim fun _ ⟨_, S6, q6⟩ => ⟨_, _, S6.unsuite I.ok, q6⟩
          · exact z.elim fun _ ⟨_, S6, q6⟩ => ⟨_, _, S6.unsuite I.ok, q6⟩
          · exact z.elim fun _ ⟨_, S6, q6⟩ => ⟨_, _, S6.unsuite I.ok, q6⟩
          · exact z.elim fun _ ⟨_, _, S6, r6, q6⟩ => ⟨_, _, _, S6.unsuite I.ok, r6, q6⟩
      | @as_ x n i c ts u us p p' hs2 l2 hN hi hl hc su r ih =>
        rintro ⟨b, eb, yes, no⟩
        refine wpAny_handleBy_cons (codeAny_handlers_test ?_) (fun q => nomatch q)
        refine names_at hc Sg ((PySem.W.exm_one (M := model X.prog X.w) Jg.kIn looks eb).here ?_)
        rcases b with _ | _
        · exact ih (no rfl)
        · refine codeAny_handlers_suite_as (HandSPX.lands_againZ fly fun g4 fly4 up4 => ?_)
          obtain ⟨oe4, vs4, at4, zc4, dat4⟩ := fly4.there
          have J4 : Inv X pins τ G { t with heap := g4 } := J.landed notB fly4.1 ((up.trans up2).trans up4) os_ ag
          refine store_ok (X := X.suite a ((a, oe4) :: (X.pn ++ pins))) (v := .ref a) (J4.suite at4 dat4 newA offL offF) hN hi (.inl hl) rfl (fun s5 S5 => ?_) (.inr hl)
          refine wpAny_mono ((su a oe4 cls d (X.pn ++ pins) zc4 ⟨_, dat4⟩).run [] s5 _ G _ S5 (yes rfl a newA)) ?_ fun _ _ z => z.elim
          have gone : ∀ {τ6 : L2.St} {G6 : Hp} {s6 : Shared} {Q : Shared → Prop}, Inv (X.suite a ((a, oe4) :: (X.pn ++ pins))) [] τ6 G6 s6 → (∀ s7, Inv X pins (τ6.set i none) G6 s7 → Q s7) →
              wpAny (model X.prog X.w) X.A (do bindName X.env n .none; unbindBehindTheSuite X.env n p') (fun _ s7 => Q s7) X.xe s6 := fun S6 hq => gone_ok (S6.unsuite I.ok) hN hi hl hq
          rintro (_ | _ | _ | v) s6 z
          · exact z.elim fun _ ⟨_, S6, q6⟩ => gone S6 fun s7 J7 => ⟨_, _, J7, q6⟩
          · exact z.elim fun _ ⟨_, S6, q6⟩ => gone S6 fun s7 J7 => ⟨_, _, J7, q6⟩
          · exact z.elim fun _ ⟨_, S6, q6⟩ => gone S6 fun s7 J7 => ⟨_, _, J7, q6⟩
          · exact z.elim fun _ ⟨_, _, S6, r6, q6⟩ => gone S6 fun s7 J7 => ⟨_, _, _, J7, r6, q6⟩
    exact all ok_ want
  · rintro (_ | _ | _ | v) t z
    · exact z.elim fun _ ⟨_, J, q⟩ => wpAny_execs_nil ⟨_, _, J.ofTry I.ok, q⟩
    · exact z.elim fun _ ⟨_, J, q⟩ => ⟨_, _, J.ofTry I.ok, q⟩
    · exact z.elim fun _ ⟨_, J, q⟩ => ⟨_, _, J.ofTry I.ok, q⟩
    · exact z.elim fun _ ⟨_, _, J, r, q⟩ => ⟨_, _, _, J.ofTry I.ok, r, q⟩
end
end PF
namespace PF
open PySem PySem.Spec PyProof.Rows L2 SlX
section
variable {Γ Γ' Γh Γ1 Δ α β γ : Type} {μ : Md} {E : EV Γ} {E' : EV Γ'} {El : EV Δ} {R : Rp γ} {mg : Str → Option Value} {fl : Str → Option Str} {Eh : Addr → Value → Option Addr → EV Γh} {E1 : Addr → Value → Option Addr → EV Γ1} {K : PySem.W.Frag}
def SHm (μ : Md) (mg : Str → Option Value) (fl : Str → Option Str) (K : PySem.W.Frag) (E : EV Γ) (E' : EV Γ') (El : EV Δ) (R : Rp β) (l : List Cls) (m : Γ → Er → M (Ct Γ' Δ β)) : Prop :=
  ∀ (k : Cn) (F H : Hp) (σ : L2.St) (ρ : Γ) (c : Nat) (D : Ends) (e : Er) (Wout : WX), Wo k F H c → EI k E F H σ ρ → (m ρ e).wp c (SP k F E' El R D) (XP μ k) → ∀ cls d, ZE K mg fl F e cls d → wMix K Wout D l cls d σ H
theorem shm_nil : SHm μ mg fl K E E' El R [] fun _ _ => M.none := fun k F H σ ρ c D e W w ei h => h.elim
theorem shm_one {c : Value} {ts : TS} {l : List Cls} {ys ns : List Str} {m : Γ → M (Ct Γ' Δ γ)} {n : Γ → Er → M (Ct Γ' Δ γ)} (hy : Exm mg K c true ys) (hn : Exm mg K c false ns) (h : SS μ E E' El R ts m) (h' : SHm μ mg fl K E E' El R l n) :
    SHm μ mg fl K E E' El R ((c, none, fun _ _ _ => ts) :: l) fun ρ e => M.byE ys ns (m ρ) (n ρ) e := fun k F H σ ρ cc D e W w ei q cls d g => by
  rcases q with ⟨i, q⟩ | ⟨i, q⟩
  · exact ⟨true, hy.at i g.1, fun _ a _ => h k F H σ ρ cc D w ei q, fun z => Bool.noConfusion z⟩
  · exact ⟨false, hn.at i g.1, fun z => Bool.noConfusion z, fun _ => h' k F H σ ρ cc D e W w ei q cls d g⟩
theorem shm_as {c : Value} {i : Nat} {l : List Cls} {ys ns : List Str} {ts : Addr → Value → Option Addr → TS} {mh : Γh → M (Ct Γ1 Δ γ)} {n : Γ → Er → M (Ct Γ' Δ γ)} {put : Γ → Er → Γh} {put2 : Γ1 → Unit → Γ'}
    (hy : Exm mg K c true ys) (hn : Exm mg K c false ns) (hp : ∀ a cls d, PutS E i (sErr K mg fl a cls d) (Eh a cls d) put) (hh : ∀ a cls d, SS μ (Eh a cls d) (E1 a cls d) El R (ts a cls d) mh)
    (hx : ∀ a cls d, PutS (E1 a cls d) i sUn E' put2) (hl : PutS El i sUn El (fun δ _ => δ)) (h' : SHm μ mg fl K E E' El R l n) :
    SHm μ mg fl K E E' El R ((c, some i, ts) :: l) fun ρ e => M.byE ys ns ((mh (put ρ e)).thn fun ρ1 => .ret (.nx (put2 ρ1 ()))) (n ρ) e := fun k F H σ ρ cc D e W w ei q cls d g => by
  rcases q with ⟨iy, z⟩ | ⟨iy, z⟩
  · refine ⟨true, hy.at iy g.1, fun _ a na => ?_, fun b => Bool.noConfusion b⟩
    have e2 : EI k (Eh a cls d) F H (σ.set i (some (.ref a))) (put ρ e) := ⟨(hp a cls d).put ei.r ⟨rfl, g⟩, (hp a cls d).nd ei.nd fun D z => nomatch z⟩
    refine hh a cls d k F H _ (put ρ e) cc _ w e2 ((mh (put ρ e)).mono cc (fun t c1 z => ?_) (fun _ z => z) z)
    have z := z
    cases t with
    | nx ρ1 => exact fun F1 H1 σ1 s1 w1 e3 => z F1 H1 _ s1 w1 ⟨(hx a cls d).put (b := ()) e3.r trivial, (hx a cls d).nd e3.nd fun D z => nomatch z⟩
    | rt b => exact z
    | bk δ => exact fun F1 H1 σ1 s1 w1 e3 => z F1 H1 _ s1 w1 ⟨hl.put (b := ()) e3.r trivial, hl.nd e3.nd fun D z => nomatch z⟩
    | ct δ => exact fun F1 H1 σ1 s1 w1 e3 => z F1 H1 _ s1 w1 ⟨hl.put (b := ()) e3.r trivial, hl.nd e3.nd fun D z => nomatch z⟩
  · exact ⟨false, hn.at iy g.1, fun b => Bool.noConfusion b, fun _ => h' k F H σ ρ cc D e W w ei z cls d g⟩
theorem s_tryMix {Wout : WX} {l : List Cls} {tb : WX → TS} {mb : Γ → M (Ct Γ' Δ γ)} {mh : Γ → Er → M (Ct Γ' Δ γ)} (hb : SBF K mg fl E E' El R tb mb) (hh : SHm μ mg fl K E E' El R l mh) :
    SS μ E E' El R (fun D σ H => tb (wMix K Wout D l) D σ H) fun ρ => M.tryM (mb ρ) (mh ρ) := fun k F H σ ρ c D w e q =>
  hb k F H σ ρ c D _ w e ((mb ρ).mono c (fun _ _ z => z) (fun er z cls d F' H' x g => hh k F' H' σ ρ c D er Wout (w.call x).2 (e.step (w.call x).1) ((mh ρ er).mono c (fun _ _ z => z.fz x.fz) (fun _ z => z) z) cls d g) q)
end
section
variable {Γ : Type} {α γ : Type} {E : EV Γ} {R : Rp γ}
theorem e_callDG {S : RA α} {ta : TA} {ma : Γ → M α} {m : α → M γ} {n i : Nat} {g : Γ → Unit} (hn : S.n + 1 = n) (hi : GetS E i sDice g) (ha : SA md0 E S ta ma) : SE md0 E R (tCallG (spOfD S R m) n (tCons (tVar i) ta)) fun ρ => (ma ρ).bind m := fun k F H σ ρ c Q w e h => by
  obtain ⟨o, h1, p, rfl, hp⟩ := hi.get e.r
  refine ⟨.ref p, h1, ha k F H σ ρ c _ w e (wp_imp h fun a c1 q vs F1 H1 x1 w1 r1 => ?_)⟩
  refine ⟨by rw [List.length_cons, S.len r1]; exact hn, ?_⟩
  obtain ⟨d1, _, d2⟩ := w1.dice p hp
  exact ⟨F1, p, vs, a, c1, rfl, w1.sub, d1, d2, r1, (m a).mono c1 (fun b c' z v F' H' x f d r => z v F' H' (x1.trans (w1.callD hp x f d).1) (w1.callD hp x f d).2 r)
    (fun _ z => XP.no w1 z) q⟩
end
structure FunC (K : PySem.W.Frag) (x qual : Str) (st : Stmt) (f : Addr) (fd : FuncData) (c : Addr) : Prop where
  ex : ∃ (oc : Value) (od : Option Addr) (kV doc pm : Value) (an : Option Addr) (ct : Value) (osl : Array (Option Value)),
    fd = PySem.W.fnOf x qual (defArgs st) (defBody st) (defScope st) .none kV doc pm an (.ref c) ct ∧ K.lookup f = some ⟨oc, od, .func fd, osl⟩ ∧ PySem.W.codeIn K (.ref c) qual = true
section
variable {P : Program} {w : World} {K : PySem.W.Frag} {mg : Str → Option Value} {base : Heap} {k : Nat} {f c : Addr} {fd : FuncData} {N ps : List Str} {sp : Sp} {x qual : Str} {st : Stmt}
theorem FunC.ok (F : FunC K x qual st f fd c) (S : FnScope N ps (defScope st)) (len : ∀ vs H Q E, sp vs H Q E → vs.length = ps.length)
    (body : ∀ (A : Around) (outer : List Env) (s : Shared) (H : Hp) (vs : List V) (Q : VK) (E : XK), Room k (A.deeper (envOfC qual (defScope st) s.heap.objs.size f (.ref c))) → sp vs H Q E →
      ∃ t, PSs (cxOf CX0 P w K mg base N qual (defScope st) f (.ref c) A outer s H E).nox (defBody st) t ∧ t { nx := fun _ H' => Q .non H', rt := Q } (start N vs) H) : FnOk P w K mg base CX0 (k + 1) f fd ps sp := by
  obtain ⟨oc, od, kV, doc, pm, an, ct, osl, rfl, lk, cd⟩ := F.ex
  exact fn_of lk cd S len fun A outer s H vs Q E hr h => (body A outer s H vs Q E hr h).imp fun t z => ⟨z.1.nox, z.2⟩
theorem FunC.okG (F : FunC K x qual st f fd c) (S : FnScope N ps (defScope st)) (b : Binds K fd ps [])
    (body : ∀ (Ar : Around) (out : List Env) (s : Shared) (G : Hp) (vs : List V) (R : VK), Ar.guards = some [] → Room k (Ar.deeper (envOfC qual (defScope st) s.heap.objs.size f (.ref c))) → sp vs G R E0 →
      ∃ t, PSs (cxOf CX0 P w K mg base N qual (defScope st) f (.ref c) Ar out s G E0).nox (defBody st) t ∧ t { nx := fun _ H' => R .non H', rt := R } (start N vs) G) : FnG P w K mg base (k + 1) f ps.length sp := by
  intro Ar out s0 G us vs R hg hr e0 hl r hsp
  obtain ⟨oc, od, kV, doc, pm, an, ct, osl, rfl, lk, hcd⟩ := F.ex
  have KX : K.In s0.heap := e0.mod.kin.keeps fun b o e => (e0.bs b o e).1
  have l2 : us.length = ps.length := r.length.symm.trans hl
  have b2 := b s0 us KX (by simpa using l2)
  rw [List.append_nil] at b2
  have kinds : ∀ y ∈ ps.zip us, (defScope st).names.lookup y.1 = some .local ∨ ((defScope st).names.lookup y.1 = some .cell ∧ ((cellsFrom (s0.heap.objs.size + 1) (defScope st).names []).lookup y.1).isSome = true) := fun y hy =>
    (S.par y.1 (List.of_mem_zip (a := y.1) (b := y.2) hy).1).imp id fun q => ⟨q, PySem.W.cellsFrom_some _ _ _ (.inl q)⟩
  refine codeAny_call_function hr.depth (KX _ _ lk) rfl S.co S.gen rfl (PySem.W.codeRec_of KX hcd) (b2 _ _ _ _ (wpAny_newFunctionEnv_cells S.kind kinds fun ev hev s1 x => ?_))
  subst hev
  refine ⟨(e0.mod.nolimit.keeps fun b o e => (e0.bs b o e).1).keeps x.toInCall.keep, codeAny_func ?_⟩
  obtain ⟨t, ht, hq⟩ := body Ar out s0 G vs R hg (hr.deeper _) hsp
  have J : Inv (cxOf CX0 P w K mg base N qual (defScope st) f (.ref c) Ar out s0 G E0) [] (start N vs) G s1 := inv_start S hr.hd e0 hl r x
  refine wpAny_mono (ht.nox.run [] s1 (start N vs) G _ J hq) (fun fl s' hs => ?_) fun _ _ z => z
  cases fl with
  | ret u => obtain ⟨v, _, G', J', rv, q⟩ := hs; exact ⟨v, G', J'.os, J'.bare, J'.base, J'.hok, rv, q⟩
  | next => obtain ⟨_, G', J', q⟩ := hs; exact ⟨V.non, G', J'.os, J'.bare, J'.base, J'.hok, rfl, q⟩
  | brk => obtain ⟨_, _, _, q⟩ := hs; exact q.elim
  | cont => obtain ⟨_, _, _, q⟩ := hs; exact q.elim
end
structure GTh (K : PySem.W.Frag) (mg : Str → Option Value) (x a : Str) (st : Stmt) : Prop where
  ex : ∃ g fd, mg x = some (.ref g) ∧ Fun K x x st g fd ∧ Binds K fd [a] []
section
variable {X : Cx}
theorem pe_lmT {TT : Addr → (XK → Hp → VK → Prop) → Hp → VK → Prop} {x a : Str} {st : Stmt} {c P : Addr} {k : Nat} {Ng : List Str} {params : Arguments} {body : Expr} {scope : Scope} {t : XK → TE} {p lpos pos : Pos} (G : GTh X.K X.mg x a st) (S : FnScope Ng [a] (defScope st))
    (n0 : Ng[0]? = some a) (va : Vis (defScope st) a) (gv : ∀ g cdv, Gives X.prog X.w X.K X.mg X.base X.A X.stack Ng x (defScope st) g cdv (defBody st) a (X.env.qual ++ "<lambda>") TT) (T : LamX.TabB X.base X.mg c P) (hc : X.env.code = .ref c) (room : Room (k + 8) X.A) (L : LamX.LamS X.env.scope scope)
    (run : ∀ (A : Around) (outer : List Env) (s : Shared) (H : Hp) (E : XK) (f c' : Addr), Room (k + 6) (A.deeper (LamX.lamEnv X scope s.heap.objs.size f c')) → PE (LamX.lamCx X A outer s H E scope f c') body (t E))
    (gl : Gl X x := by rfl) (dfl : defaultsOf params X.env = ([], []) := by rfl)
    (bnd : ∀ (q : Str) (cl : List (Str × Addr)) (pm cv ctv : Value), bindArgs (PySem.W.kla_fn "<lambda>" q params body scope cl pm cv ctv) ⟨[], []⟩ = pure [] := by exact fun _ _ _ _ _ => rfl)
    (db : (x == ("__debug__" : Str)) = false := by decide) (hd : (a == ("__debug__" : Str)) = false := by decide) (hcd : (a == ("__classdict__" : Str)) = false := by decide) :
    PE X (.Call (.Name x p) [.Lambda params body scope lpos] [] pos) (tLm P (X.env.qual ++ "<lambda>") TT t) := by
  obtain ⟨g, fd, hm, F, bn⟩ := G.ex
  obtain ⟨oc, od, kV, doc, pm, an, cdv, ct, osl, rfl, lk, cd⟩ := F.ex
  exact pe_lm gl hm F.kp lk cd bn S n0 va (gv g cdv) T hc room L dfl bnd run db hd hcd
end
section
variable {Γ α γ : Type} {E : EV Γ} {R : Rp γ} {K : PySem.W.Frag}
theorem e_callDGT {S : RA α} {ta : TA} {ma : Γ → M α} {m : α → M γ} {n i : Nat} {g : Γ → Unit} (hn : S.n + 1 = n) (hT : HasT E) (hi : GetS E i sDice g) (ha : SA md0 E S ta ma) : SE md0 E R (tCallG (spOfDT S R m) n (tCons (tVar i) ta)) fun ρ => (ma ρ).bind m := fun k F H σ ρ c Q w e h => by
  obtain ⟨o, h1, p, rfl, hp⟩ := hi.get e.r
  refine ⟨.ref p, h1, ha k F H σ ρ c _ w e (wp_imp h fun a c1 q vs F1 H1 x1 w1 r1 => ?_)⟩
  refine ⟨by rw [List.length_cons, S.len r1]; exact hn, ?_⟩
  obtain ⟨d1, _, d2⟩ := w1.dice p hp
  exact ⟨F1, p, vs, a, c1, rfl, w1.sub, hT.t (e.step x1).r, d1, d2, r1, (m a).mono c1 (fun b c' z v F' H' x f d r => z v F' H' (x1.trans (w1.callD hp x f d).1) (w1.callD hp x f d).2 r) (fun _ z => XP.no w1 z) q⟩
end
end PF
set_option maxHeartbeats 400000
namespace PF
open PySem PySem.Spec PyProof.Rows L2 SlX
section
variable {μ : Md} {K : PySem.W.Frag}
def rDvm : List V → Hp → VK → Prop := fun xs H Q => ∃ i j, xs = [.int i, .int j] ∧ CDiv i j ∧ ∀ p, H p = none → Q (.ref p) (upd H p (.tup [.int (i / j), .int (i % j)]))
theorem c_divmod : CaS μ rDvm (a2 rInt rInt) (rTx K (aCons rInt (aCons rInt aNil))) fun a => .need (CDiv a.1 a.2.1) (.ret (a.1 / a.2.1, a.1 % a.2.1, ())) := fun k F H c vs a Q w r q => by
  obtain ⟨v, x, e, r1, r2⟩ := two r
  have r1 : v = .int a.1 := r1
  have r2 : x = .int a.2.1 := r2
  subst r1 r2
  refine ⟨_, _, e, q.1, fun p n => VP.newT w q.2 n fun _ => ⟨p, _, rfl, .of upd_same, _, _, rfl, rfl, _, _, rfl, rfl, rfl⟩⟩
theorem call_dvm {X : Cx} : CallR X (.builtin "divmod") rDvm := call_divmod
def rNiS : V → V → Hp → VK → Prop := fun x y H Q => ∃ i j, x = .str i ∧ y = .str j ∧ Q (.bl (!(!(Builtin.Str.occurrences j i 0 j.length 1).isEmpty))) H
theorem op_niS {X : Cx} : OpR X (compareOp .NotIn) rNiS := op_notIn_str
theorem o_niS : OpS μ rNiS rStr rStr rBl fun a b => .ret (!(inStr a b)) := fun k F H c x y a b Q w hx hy q => ⟨a, b, hx, hy, VP.now w q rfl⟩
end
section
variable {μ : Md} {K : PySem.W.Frag}
theorem o_ixS {μ : Md} : OpS μ rIxS rStr rInt rStr fun z i => .need (z.length ≤ sizeLine) (.bind (.the (atI z.cps.toList i)) fun c => .ret (⟨#[c]⟩ : Str)) := fun k F H c x y z i Q w hx hy ⟨hl, n, hn, q⟩ => by
  have hx : x = .str z := hx
  have hy : y = .int i := hy
  subst hx hy
  exact ⟨z, i, n, rfl, rfl, hl, hn, VP.now w q rfl⟩
end
section
variable {α : Type} {μ : Md} {K : PySem.W.Frag} {Ra : Rp α}
theorem o_notInD {da : α → PyData} {i j : Nat} (hA : DpR K Ra da i) (hB : DpR K (rLs Ra) (fun xs => .list (xs.map da)) j) (hi : i ≤ 64 := by decide) (hj : j ≤ 64 := by decide) :
    OpS μ (rNotInD K) Ra (rLs Ra) rBl fun a xs => .need ((da a).canLay0 = true ∧ (PyData.list (xs.map da)).canLay0 = true) (.ret (!(xs.map da).any fun z => PyData.eqv z (da a))) := fun k F H c x y a b Q w hx hy q =>
  ⟨_, _, Dp.same w.sub (hA.dp hx), Dp.same w.sub (hB.dp hy), shaped_of (hA.deep a) hi q.1.1, shaped_of (hB.deep b) hj q.1.2, VP.now w q.2 rfl⟩
end
end PF
set_option maxHeartbeats 4000000
namespace PF2
open PF PySem PySem.Spec PyProof.Rows L2 SlX
section
variable {P : Program} {w : World} {K : PySem.W.Frag} {mg : Str → Option Value} {base : Heap} {f CO CN CF CE : Addr} {fd : FuncData}
def flE (x : Str) : Option Str := if x = "InvalidCount" then some "value" else none
theorem sc_is_whole : FnScope ["value"] ["value"] (defScope (topS 12)) := ⟨rfl, rfl, rfl, by decide +kernel, rfl, by decide +kernel, by decide +kernel⟩
noncomputable def b_is_whole_D (ρ : (PyData × Unit)) : M (Ct Unit Unit Bool) := (M.bind (M.bind (M.bind (M.bind (M.ret ρ.1) fun x3 => M.bind (M.bind (M.ret ()) fun x1 => M.bind (M.ret ()) fun x2 => M.ret (x1, x2)) fun x4 => M.ret (x3, x4)) fun r5 => M.ret (isD "int" r5.1)) fun x12 => M.ifb x12 (M.bind (M.bind (M.bind (M.ret ρ.1) fun x8 => M.bind (M.bind (M.ret ()) fun x6 => M.bind (M.ret ()) fun x7 => M.ret (x6, x7)) fun x9 => M.ret (x8, x9)) fun r10 => M.ret (isD "bool" r10.1)) fun x11 => M.ret (!x11)) (M.ret false)) fun x13 => M.ret (.rt x13))
noncomputable def m_is_whole_D (a : (PyData × Unit)) : M Bool := M.fin (b_is_whole_D (a.1, ()))
theorem ok_is_whole_D (F : Fun K "is_whole" "is_whole" (topS 12) f fd) (fr : Free mg) : FnOk P w K mg base CX0 2 f fd ["value"] (spOf (aCons (rDt K) aNil) rBl m_is_whole_D) := by
  refine F.ok sc_is_whole (fun vs H Q E h => spOf_len h) (fun cdv A outer s H vs Q E hr h => ⟨_, (pss_one (ps_ret (pe_and (pe_callB call_isiU (by rfl) fr.b_isinstance (by decide +kernel) (pa_cons (pv 0) (pa_cons (pe_bltn (v := .ty "int") (by rfl) fr.b_int (by decide +kernel) rfl) pa_nil))) (pe_one (pe_not (pe_callB call_isiU (by rfl) fr.b_isinstance (by decide +kernel) (pa_cons (pv 0) (pa_cons (pe_bltn (v := .ty "bool") (by rfl) fr.b_bool (by decide +kernel) rfl) pa_nil)))))))), ?_⟩)
  refine fn_body (X := E) (S := (aCons (rDt K) aNil)) (E' := eNil) (R := rBl) (st_par st_nil) rfl (s_ret (e_and (e_ca (c_isiDt (u := "int")) (a_cons (e_var get0) (a_cons e_tyV a_nil))) (e_not (e_ca (c_isiDt (u := "bool")) (a_cons (e_var get0) (a_cons e_tyV a_nil)))))) ?_
  exact h
theorem sc_is_integer : FnScope ["value"] ["value"] (defScope (topS 13)) := ⟨rfl, rfl, rfl, by decide +kernel, rfl, by decide +kernel, by decide +kernel⟩
noncomputable def b_is_integer_D (ρ : (PyData × Unit)) : M (Ct Unit Unit Bool) := (M.bind (M.bind (M.bind (M.bind (M.ret ρ.1) fun x14 => M.bind (M.ret ()) fun x15 => M.ret (x14, x15)) fun r16 => M.still (m_is_whole_D r16)) fun x24 => M.ifb x24 (M.bind (M.bind (M.ret (1000000000000000000000000000000000000000000000000000000000000 : Int)) fun x17 => M.ret (-x17)) fun x20 => M.bind (M.bind (M.ret ρ.1) fun x18 => M.the (dInt x18)) fun x21 => M.bind (M.ret (decide (x20 < x21))) fun (k22 : Bool) => M.ifb k22 (M.bind (M.ret (1000000000000000000000000000000000000000000000000000000000000 : Int)) fun x23 => M.ret (decide (x21 < x23))) (M.ret false)) (M.ret false)) fun x25 => M.ret (.rt x25))
noncomputable def m_is_integer_D (a : (PyData × Unit)) : M Bool := M.fin (b_is_integer_D (a.1, ()))
theorem ok_is_integer_D (F : Fun K "is_integer" "is_integer" (topS 13) f fd) (G_is_whole_D : GD P w K mg base "is_whole" 2 (spOf (aCons (rDt K) aNil) rBl m_is_whole_D)) (g_GREAT : ∃ tk, mg "GREAT" = some (.int 1000000000000000000000000000000000000000000000000000000000000 tk)) : FnOk P w K mg base CX0 3 f fd ["value"] (spOf (aCons (rDt K) aNil) rBl m_is_integer_D) := by
  refine F.ok sc_is_integer (fun vs H Q E h => spOf_len h) (fun cdv A outer s H vs Q E hr h => ⟨_, (pss_one (ps_ret (pe_and (pe_c1 G_is_whole_D (hr.mono (by decide)) (pa_cons (pv 0) pa_nil)) (pe_one (pe_chain op_lt op_lt (pe_un un_neg (pe_glob (v := .int 1000000000000000000000000000000000000000000000000000000000000) rfl g_GREAT.choose_spec ⟨_, rfl⟩)) (pv 0) (pe_glob (v := .int 1000000000000000000000000000000000000000000000000000000000000) rfl g_GREAT.choose_spec ⟨_, rfl⟩)))))), ?_⟩)
  refine fn_body (X := E) (S := (aCons (rDt K) aNil)) (E' := eNil) (R := rBl) (st_par st_nil) rfl (s_ret (e_and (e_call (a_cons (e_var get0) a_nil)) (e_chain (o_ib fun _ _ => rfl) (o_ib fun _ _ => rfl) (e_un (u_ii fun _ => rfl) e_int) (e_dInt (e_var get0)) e_int))) ?_
  exact h
theorem sc_is_count : FnScope ["value"] ["value"] (defScope (topS 14)) := ⟨rfl, rfl, rfl, by decide +kernel, rfl, by decide +kernel, by decide +kernel⟩
noncomputable def b_is_count_D (ρ : (PyData × Unit)) : M (Ct Unit Unit Bool) := (M.bind (M.bind (M.bind (M.bind (M.ret ρ.1) fun x26 => M.bind (M.ret ()) fun x27 => M.ret (x26, x27)) fun r28 => M.still (m_is_integer_D r28)) fun x32 => M.ifb x32 (M.bind (M.bind (M.ret ρ.1) fun x29 => M.the (dInt x29)) fun x30 => M.bind (M.ret (0 : Int)) fun x31 => M.ret (decide (x31 ≤ x30))) (M.ret false)) fun x33 => M.ret (.rt x33))
noncomputable def m_is_count_D (a : (PyData × Unit)) : M Bool := M.fin (b_is_count_D (a.1, ()))
theorem ok_is_count_D (F : Fun K "is_count" "is_count" (topS 14) f fd) (G_is_integer_D : GD P w K mg base "is_integer" 3 (spOf (aCons (rDt K) aNil) rBl m_is_integer_D)) : FnOk P w K mg base CX0 4 f fd ["value"] (spOf (aCons (rDt K) aNil) rBl m_is_count_D) := by
  refine F.ok sc_is_count (fun vs H Q E h => spOf_len h) (fun cdv A outer s H vs Q E hr h => ⟨_, (pss_one (ps_ret (pe_and (pe_c1 G_is_integer_D (hr.mono (by decide)) (pa_cons (pv 0) pa_nil)) (pe_one (pe_cmpR op_ge (pv 0) pe_int (nomark _)))))), ?_⟩)
  refine fn_body (X := E) (S := (aCons (rDt K) aNil)) (E' := eNil) (R := rBl) (st_par st_nil) rfl (s_ret (e_and (e_call (a_cons (e_var get0) a_nil)) (e_op (o_ib fun _ _ => rfl) (e_dInt (e_var get0)) e_int))) ?_
  exact h
theorem sc_is_name : FnScope ["value", "sign"] ["value"] (defScope (topS 15)) := ⟨rfl, rfl, rfl, by decide +kernel, rfl, by decide +kernel, by decide +kernel⟩
noncomputable def b_is_name (ρ : (Str × (Unit × Unit))) : M (Ct Unit Unit Bool) := (M.thn (M.bind (M.bind (M.bind (M.bind (M.bind (M.ret ρ.1) fun x36 => M.bind (M.bind (M.ret ()) fun x34 => M.bind (M.ret ()) fun x35 => M.ret (x34, x35)) fun x37 => M.ret (x36, x37)) fun r38 => M.ret true) fun x39 => M.ret (!x39)) fun x51 => M.ifb x51 (M.ret true) (M.bind (M.bind (M.ret (1 : Int)) fun x46 => M.bind (M.bind (M.bind (M.ret ρ.1) fun x40 => M.bind (M.ret ()) fun x41 => M.ret (x40, x41)) fun r42 => M.need (Str.length r42.1 ≤ sizeLine) (M.ret (Str.length r42.1 : Int))) fun x47 => M.bind (M.ret (decide (x46 ≤ x47))) fun (k48 : Bool) => M.ifb k48 (M.bind (M.ret (8 : Int)) fun x49 => M.ret (decide (x47 ≤ x49))) (M.ret false)) fun x50 => M.ret (!x50))) fun x53 => M.ifb x53 (M.bind (M.ret false) fun x52 => M.ret (.rt x52)) (M.ret (.nx ρ))) fun ρ => (M.bind (M.bind (M.bind (M.bind (M.bind (M.ret ρ.1) fun x54 => M.ret (PF.signs x54)) fun l58 => M.need (l58.length ≤ 1000000) (M.lcM l58 fun (a59 : Str) => M.bind ((fun ρ => (M.ret true)) (ρ.1, a59, ρ.2.2)) fun (b60 : Bool) => M.ifb b60 (M.bind ((fun ρ => (M.bind (M.ret ρ.2.1) fun x55 => M.bind (M.ret ("abcdefghijklmnopqrstuvwxyz" : Str)) fun x56 => M.ret (inStr x55 x56))) (ρ.1, a59, ρ.2.2)) fun (y61 : Bool) => M.ret (some y61)) (M.ret none))) fun x62 => M.bind (M.ret ()) fun x63 => M.ret (x62, x63)) fun r64 => M.ret (r64.1.all id)) fun x65 => M.ret (.rt x65)))
noncomputable def m_is_name (a : (Str × Unit)) : M Bool := M.fin (b_is_name (a.1, ((), ())))
theorem ok_is_name (F : Fun K "is_name" "is_name" (topS 15) f fd) (fr : Free mg) (g_MAX_LETTERS : ∃ tk, mg "MAX_LETTERS" = some (.int 8 tk)) (g_LETTERS : ∃ tk, mg "LETTERS" = some (.str "abcdefghijklmnopqrstuvwxyz" tk)) : FnOk P w K mg base CX0 2 f fd ["value"] (spOf (aCons rStr aNil) rBl m_is_name) := by
  refine F.ok sc_is_name (fun vs H Q E h => spOf_len h) (fun cdv A outer s H vs Q E hr h => ⟨_, (pss_cons (ps_if (PW.pt (pw_or (pt_not (pt_val (pe_callB call_isiU (by rfl) fr.b_isinstance (by decide +kernel) (pa_cons (pv 0) (pa_cons (pe_bltn (v := .ty "str") (by rfl) fr.b_str (by decide +kernel) rfl) pa_nil))))) (pw_or1 (pt_not (pt_chain op_le op_le pe_int (pe_callB call_len_str (by rfl) fr.b_len (by decide +kernel) (pa_cons (pv 0) pa_nil)) (pe_glob (v := .int 8) rfl g_MAX_LETTERS.choose_spec ⟨_, rfl⟩)))))) (pss_one (ps_ret pe_bl)) pss_nil)
  (pss_one (ps_ret (pe_callB (cr_all rfl) (by rfl) fr.b_all (by decide +kernel) (pa_cons (pe_lc (own := [("sign", 1)]) (by rfl) sc_is_name.nd  (pi_str (pv 0)) (blkOk_by (own := [("sign", 1)]) (N := ["value", "sign"]) (sc := defScope (topS 15)) (by decide +kernel)) (fun _ _ _ _ _ => (pg_name (i := 1) sc_is_name.nd rfl (by first | exact Or.inl rfl | exact Or.inr rfl))) (fun _ _ _ _ _ => pts_nil) (fun _ _ _ _ _ => (pe_cmpR op_in_str (pv 1) (pe_glob (v := .str "abcdefghijklmnopqrstuvwxyz") rfl g_LETTERS.choose_spec ⟨_, rfl⟩) (by rfl)))) pa_nil))))), ?_⟩)
  refine fn_body (X := E) (S := (aCons rStr aNil)) (E' := eNil) (R := rBl) (st_par (st_un st_nil)) rfl (s_seq (s_if (t_or (t_not (t_b (e_ca (c_isiT (b := true) tr_str (kit_ty (by decide +kernel))) (a_cons (e_var get0) (a_cons e_tyV a_nil))))) (t_not (t_of (e_chain (o_ib fun _ _ => rfl) (o_ib fun _ _ => rfl) e_int (e_ca c_lenS (a_cons (e_var get0) a_nil)) e_int)))) (s_ret e_bl) s_nil)
  (s_ret (e_ca c_all (a_cons (SN.se (n_lc (i_str (e_var get0)) (gw_name pu1) t_yes (e_op o_inStr (e_var gt1) e_str))) a_nil)))) ?_
  exact h
noncomputable def b_is_name_D (ρ : (PyData × (Unit × Unit))) : M (Ct Unit Unit Bool) := (M.thn (M.bind (M.bind (M.bind (M.bind (M.bind (M.ret ρ.1) fun x68 => M.bind (M.bind (M.ret ()) fun x66 => M.bind (M.ret ()) fun x67 => M.ret (x66, x67)) fun x69 => M.ret (x68, x69)) fun r70 => M.ret (isD "str" r70.1)) fun x71 => M.ret (!x71)) fun x85 => M.ifb x85 (M.ret true) (M.bind (M.bind (M.ret (1 : Int)) fun x80 => M.bind (M.bind (M.bind (M.bind (M.ret ρ.1) fun x72 => M.the (dStr x72)) fun x73 => M.bind (M.ret ()) fun x74 => M.ret (x73, x74)) fun r75 => M.need (Str.length r75.1 ≤ sizeLine) (M.ret (Str.length r75.1 : Int))) fun x81 => M.bind (M.ret (decide (x80 ≤ x81))) fun (k82 : Bool) => M.ifb k82 (M.bind (M.ret (8 : Int)) fun x83 => M.ret (decide (x81 ≤ x83))) (M.ret false)) fun x84 => M.ret (!x84))) fun x87 => M.ifb x87 (M.bind (M.ret false) fun x86 => M.ret (.rt x86)) (M.ret (.nx ρ))) fun ρ => (M.bind (M.bind (M.bind (M.bind (M.bind (M.bind (M.ret ρ.1) fun x88 => M.the (dStr x88)) fun x89 => M.ret (PF.signs x89)) fun l93 => M.need (l93.length ≤ 1000000) (M.lcM l93 fun (a94 : Str) => M.bind ((fun ρ => (M.ret true)) (ρ.1, a94, ρ.2.2)) fun (b95 : Bool) => M.ifb b95 (M.bind ((fun ρ => (M.bind (M.ret ρ.2.1) fun x90 => M.bind (M.ret ("abcdefghijklmnopqrstuvwxyz" : Str)) fun x91 => M.ret (inStr x90 x91))) (ρ.1, a94, ρ.2.2)) fun (y96 : Bool) => M.ret (some y96)) (M.ret none))) fun x97 => M.bind (M.ret ()) fun x98 => M.ret (x97, x98)) fun r99 => M.ret (r99.1.all id)) fun x100 => M.ret (.rt x100)))
noncomputable def m_is_name_D (a : (PyData × Unit)) : M Bool := M.fin (b_is_name_D (a.1, ((), ())))
theorem ok_is_name_D (F : Fun K "is_name" "is_name" (topS 15) f fd) (fr : Free mg) (g_MAX_LETTERS : ∃ tk, mg "MAX_LETTERS" = some (.int 8 tk)) (g_LETTERS : ∃ tk, mg "LETTERS" = some (.str "abcdefghijklmnopqrstuvwxyz" tk)) : FnOk P w K mg base CX0 2 f fd ["value"] (spOf (aCons (rDt K) aNil) rBl m_is_name_D) := by
  refine F.ok sc_is_name (fun vs H Q E h => spOf_len h) (fun cdv A outer s H vs Q E hr h => ⟨_, (pss_cons (ps_if (PW.pt (pw_or (pt_not (pt_val (pe_callB call_isiU (by rfl) fr.b_isinstance (by decide +kernel) (pa_cons (pv 0) (pa_cons (pe_bltn (v := .ty "str") (by rfl) fr.b_str (by decide +kernel) rfl) pa_nil))))) (pw_or1 (pt_not (pt_chain op_le op_le pe_int (pe_callB call_len_str (by rfl) fr.b_len (by decide +kernel) (pa_cons (pv 0) pa_nil)) (pe_glob (v := .int 8) rfl g_MAX_LETTERS.choose_spec ⟨_, rfl⟩)))))) (pss_one (ps_ret pe_bl)) pss_nil)
  (pss_one (ps_ret (pe_callB (cr_all rfl) (by rfl) fr.b_all (by decide +kernel) (pa_cons (pe_lc (own := [("sign", 1)]) (by rfl) sc_is_name.nd  (pi_str (pv 0)) (blkOk_by (own := [("sign", 1)]) (N := ["value", "sign"]) (sc := defScope (topS 15)) (by decide +kernel)) (fun _ _ _ _ _ => (pg_name (i := 1) sc_is_name.nd rfl (by first | exact Or.inl rfl | exact Or.inr rfl))) (fun _ _ _ _ _ => pts_nil) (fun _ _ _ _ _ => (pe_cmpR op_in_str (pv 1) (pe_glob (v := .str "abcdefghijklmnopqrstuvwxyz") rfl g_LETTERS.choose_spec ⟨_, rfl⟩) (by rfl)))) pa_nil))))), ?_⟩)
  refine fn_body (X := E) (S := (aCons (rDt K) aNil)) (E' := eNil) (R := rBl) (st_par (st_un st_nil)) rfl (s_seq (s_if (t_or (t_not (t_b (e_ca (c_isiDt (u := "str")) (a_cons (e_var get0) (a_cons e_tyV a_nil))))) (t_not (t_of (e_chain (o_ib fun _ _ => rfl) (o_ib fun _ _ => rfl) e_int (e_ca c_lenS (a_cons (e_dStr (e_var get0)) a_nil)) e_int)))) (s_ret e_bl) s_nil)
  (s_ret (e_ca c_all (a_cons (SN.se (n_lc (i_str (e_dStr (e_var get0))) (gw_name pu1) t_yes (e_op o_inStr (e_var gt1) e_str))) a_nil)))) ?_
  exact h
theorem sc_are_names : FnScope ["value", "name"] ["value"] (defScope (topS 16)) := ⟨rfl, rfl, rfl, by decide +kernel, rfl, by decide +kernel, by decide +kernel⟩
noncomputable def b_are_names (ρ : ((List Str) × (Unit × Unit))) : M (Ct Unit Unit Bool) := (M.bind (M.bind (M.bind (M.bind (M.ret ρ.1) fun x103 => M.bind (M.bind (M.ret ()) fun x101 => M.bind (M.ret ()) fun x102 => M.ret (x101, x102)) fun x104 => M.ret (x103, x104)) fun r105 => M.ret true) fun x117 => M.ifb x117 (M.bind (M.bind (M.bind (M.ret ρ.1) fun l110 => M.need (l110.length ≤ 1000000) (M.lcM l110 fun (a111 : Str) => M.bind ((fun ρ => (M.ret true)) (ρ.1, a111, ρ.2.2)) fun (b112 : Bool) => M.ifb b112 (M.bind ((fun ρ => (M.bind (M.bind (M.ret ρ.2.1) fun x106 => M.bind (M.ret ()) fun x107 => M.ret (x106, x107)) fun r108 => M.still (m_is_name r108))) (ρ.1, a111, ρ.2.2)) fun (y113 : Bool) => M.ret (some y113)) (M.ret none))) fun x114 => M.bind (M.ret ()) fun x115 => M.ret (x114, x115)) fun r116 => M.ret (r116.1.all id)) (M.ret false)) fun x118 => M.ret (.rt x118))
noncomputable def m_are_names (a : ((List Str) × Unit)) : M Bool := M.fin (b_are_names (a.1, ((), ())))
theorem ok_are_names (F : Fun K "are_names" "are_names" (topS 16) f fd) (fr : Free mg) (G_is_name : GD P w K mg base "is_name" 2 (spOf (aCons rStr aNil) rBl m_is_name)) : FnOk P w K mg base CX0 3 f fd ["value"] (spOf (aCons (rTup K rStr) aNil) rBl m_are_names) := by
  refine F.ok sc_are_names (fun vs H Q E h => spOf_len h) (fun cdv A outer s H vs Q E hr h => ⟨_, (pss_one (ps_ret (pe_and (pe_callB call_isiU (by rfl) fr.b_isinstance (by decide +kernel) (pa_cons (pv 0) (pa_cons (pe_bltn (v := .ty "tuple") (by rfl) fr.b_tuple (by decide +kernel) rfl) pa_nil))) (pe_one (pe_callB (cr_all rfl) (by rfl) fr.b_all (by decide +kernel) (pa_cons (pe_lc (own := [("name", 1)]) (by rfl) sc_are_names.nd  (pi_tup (pv 0)) (blkOk_by (own := [("name", 1)]) (N := ["value", "name"]) (sc := defScope (topS 16)) (by decide +kernel)) (fun _ _ _ _ _ => (pg_name (i := 1) sc_are_names.nd rfl (by first | exact Or.inl rfl | exact Or.inr rfl))) (fun _ _ _ _ _ => pts_nil) (fun _ _ _ _ _ => (pe_c1 G_is_name (hr.mono (by decide)) (pa_cons (pv 1) pa_nil)))) pa_nil)))))), ?_⟩)
  refine fn_body (X := E) (S := (aCons (rTup K rStr) aNil)) (E' := eNil) (R := rBl) (st_par (st_un st_nil)) rfl (s_ret (e_and (e_ca (c_isiT (b := true) tr_tup (kit_ty (by decide +kernel))) (a_cons (e_var get0) (a_cons e_tyV a_nil))) (e_ca c_all (a_cons (SN.se (n_lc (i_tup (e_var get0)) (gw_name pu1) t_yes (e_call (a_cons (e_var gt1) a_nil)))) a_nil)))) ?_
  exact h
noncomputable def b_are_names_D (ρ : (PyData × (Unit × Unit))) : M (Ct Unit Unit Bool) := (M.bind (M.bind (M.bind (M.bind (M.ret ρ.1) fun x121 => M.bind (M.bind (M.ret ()) fun x119 => M.bind (M.ret ()) fun x120 => M.ret (x119, x120)) fun x122 => M.ret (x121, x122)) fun r123 => M.ret (isD "tuple" r123.1)) fun x136 => M.ifb x136 (M.bind (M.bind (M.bind (M.bind (M.ret ρ.1) fun x124 => M.the (dTup x124)) fun l129 => M.need (l129.length ≤ 1000000) (M.lcM l129 fun (a130 : PyData) => M.bind ((fun ρ => (M.ret true)) (ρ.1, a130, ρ.2.2)) fun (b131 : Bool) => M.ifb b131 (M.bind ((fun ρ => (M.bind (M.bind (M.ret ρ.2.1) fun x125 => M.bind (M.ret ()) fun x126 => M.ret (x125, x126)) fun r127 => M.still (m_is_name_D r127))) (ρ.1, a130, ρ.2.2)) fun (y132 : Bool) => M.ret (some y132)) (M.ret none))) fun x133 => M.bind (M.ret ()) fun x134 => M.ret (x133, x134)) fun r135 => M.ret (r135.1.all id)) (M.ret false)) fun x137 => M.ret (.rt x137))
noncomputable def m_are_names_D (a : (PyData × Unit)) : M Bool := M.fin (b_are_names_D (a.1, ((), ())))
theorem ok_are_names_D (F : Fun K "are_names" "are_names" (topS 16) f fd) (fr : Free mg) (G_is_name_D : GD P w K mg base "is_name" 2 (spOf (aCons (rDt K) aNil) rBl m_is_name_D)) : FnOk P w K mg base CX0 3 f fd ["value"] (spOf (aCons (rDt K) aNil) rBl m_are_names_D) := by
  refine F.ok sc_are_names (fun vs H Q E h => spOf_len h) (fun cdv A outer s H vs Q E hr h => ⟨_, (pss_one (ps_ret (pe_and (pe_callB call_isiU (by rfl) fr.b_isinstance (by decide +kernel) (pa_cons (pv 0) (pa_cons (pe_bltn (v := .ty "tuple") (by rfl) fr.b_tuple (by decide +kernel) rfl) pa_nil))) (pe_one (pe_callB (cr_all rfl) (by rfl) fr.b_all (by decide +kernel) (pa_cons (pe_lc (own := [("name", 1)]) (by rfl) sc_are_names.nd  (pi_tup (pv 0)) (blkOk_by (own := [("name", 1)]) (N := ["value", "name"]) (sc := defScope (topS 16)) (by decide +kernel)) (fun _ _ _ _ _ => (pg_name (i := 1) sc_are_names.nd rfl (by first | exact Or.inl rfl | exact Or.inr rfl))) (fun _ _ _ _ _ => pts_nil) (fun _ _ _ _ _ => (pe_c1 G_is_name_D (hr.mono (by decide)) (pa_cons (pv 1) pa_nil)))) pa_nil)))))), ?_⟩)
  refine fn_body (X := E) (S := (aCons (rDt K) aNil)) (E' := eNil) (R := rBl) (st_par (st_un st_nil)) rfl (s_ret (e_and (e_ca (c_isiDt (u := "tuple")) (a_cons (e_var get0) (a_cons e_tyV a_nil))) (e_ca c_all (a_cons (SN.se (n_lc (i_tup (e_dTup (e_var get0))) (gw_name pu1) t_yes (e_call (a_cons (e_var gt1) a_nil)))) a_nil)))) ?_
  exact h
theorem sc_require_count : FnScope ["value", "least", "most"] ["value", "least", "most"] (defScope (topS 17)) := ⟨rfl, rfl, rfl, by decide +kernel, rfl, by decide +kernel, by decide +kernel⟩
noncomputable def b_require_count (ρ : (Int × (Int × (Int × Unit)))) : M (Ct (Int × (Int × (Int × Unit))) Unit Unit) := (M.bind (M.bind (M.bind (M.bind (M.bind (M.bind (M.ret ρ.1) fun x138 => M.ret (PyData.int x138)) fun x139 => M.bind (M.ret ()) fun x140 => M.ret (x139, x140)) fun r141 => M.still (m_is_integer_D r141)) fun x142 => M.ret (!x142)) fun x148 => M.ifb x148 (M.ret true) (M.bind (M.bind (M.ret ρ.2.1) fun x143 => M.bind (M.ret ρ.1) fun x144 => M.bind (M.ret (decide (x143 ≤ x144))) fun (k145 : Bool) => M.ifb k145 (M.bind (M.ret ρ.2.2.1) fun x146 => M.ret (decide (x144 ≤ x146))) (M.ret false)) fun x147 => M.ret (!x147))) fun x149 => M.ifb x149 M.none (M.ret (.nx ρ)))
noncomputable def m_require_count (a : (Int × (Int × (Int × Unit)))) : M Unit := M.finN (b_require_count (a.1, (a.2.1, (a.2.2.1, ()))))
theorem ok_require_count (F : Fun K "require_count" "require_count" (topS 17) f fd) (G_is_integer_D : GD P w K mg base "is_integer" 3 (spOf (aCons (rDt K) aNil) rBl m_is_integer_D)) : FnOk P w K mg base CX0 4 f fd ["value", "least", "most"] (spOf (aCons rInt (aCons rInt (aCons rInt aNil))) rNon m_require_count) := by
  refine F.ok sc_require_count (fun vs H Q E h => spOf_len h) (fun cdv A outer s H vs Q E hr h => ⟨_, (pss_one (ps_if (PW.pt (pw_or (pt_not (pt_val (pe_c1 G_is_integer_D (hr.mono (by decide)) (pa_cons (pv 0) pa_nil)))) (pw_or1 (pt_not (pt_chain op_le op_le (pv 1) (pv 0) (pv 2)))))) (pss_one ps_never) pss_nil)), ?_⟩)
  refine fn_bodyN (X := E) (S := (aCons rInt (aCons rInt (aCons rInt aNil)))) (E' := (eCons (sVal rInt) (eCons (sVal rInt) (eCons (sVal rInt) eNil)))) (st_par (st_par (st_par st_nil))) rfl (s_if (t_or (t_not (t_b (e_call (a_cons (e_dat dp_int (e_var get0)) a_nil)))) (t_not (t_of (e_chain (o_ib fun _ _ => rfl) (o_ib fun _ _ => rfl) (e_var gt1) (e_var get0) (e_var gt2))))) s_never s_nil) ?_
  exact h
noncomputable def b_require_count_X (ρ : (PyData × (Int × (Int × Unit)))) : M (Ct (PyData × (Int × (Int × Unit))) Unit Unit) := (M.bind (M.safe (M.bind (M.bind (M.bind (M.bind (M.ret ρ.1) fun x150 => M.bind (M.ret ()) fun x151 => M.ret (x150, x151)) fun r152 => M.still (m_is_integer_D r152)) fun x153 => M.ret (!x153)) fun x161 => M.ifb x161 (M.ret true) (M.bind (M.bind (M.ret ρ.2.1) fun x156 => M.bind (M.bind (M.ret ρ.1) fun x154 => M.the (dInt x154)) fun x157 => M.bind (M.ret (decide (x156 ≤ x157))) fun (k158 : Bool) => M.ifb k158 (M.bind (M.ret ρ.2.2.1) fun x159 => M.ret (decide (x157 ≤ x159))) (M.ret false)) fun x160 => M.ret (!x160)))) fun x163 => M.ifb x163 (M.bind (M.safe (M.ret ρ.1)) fun x162 => M.raise ⟨"InvalidCount", id x162⟩) (M.safe (M.ret (.nx ρ))))
noncomputable def m_require_count_X (a : (PyData × (Int × (Int × Unit)))) : M Unit := M.finN (b_require_count_X (a.1, (a.2.1, (a.2.2.1, ()))))
theorem ok_require_count_X (F : Fun K "require_count" "require_count" (topS 17) f fd) (G_is_integer_D : GD P w K mg base "is_integer" 3 (spOf (aCons (rDt K) aNil) rBl m_is_integer_D)) (Y_InvalidCount : GErr P K mg "InvalidCount" "value" A_InvalidCount) : FnOk P w K mg base (L2.CX P w) 4 f fd ["value", "least", "most"] (spOfF K mg flE (aCons (rDt K) (aCons rInt (aCons rInt aNil))) rNon m_require_count_X) := by
  refine F.okX sc_require_count (fun vs H Q E h => spOfF_len h) (fun cdv A outer s H vs Q E hr h => ⟨_, (pss_one (ps_if (PW.pt (pw_or (pt_not (pt_val (pe_c1 G_is_integer_D (hr.mono (by decide)) (pa_cons (pv 0) pa_nil)))) (pw_or1 (pt_not (pt_chain op_le op_le (pv 1) (pv 0) (pv 2)))))) (pss_one (ps_raiseF (takes_of rfl rfl rfl rfl) Y_InvalidCount (hr.mono (by decide) : Room 1 _) (pa_cons (pv 0) pa_nil))) pss_nil)), ?_⟩)
  refine fn_bodyNF (K := K) (X := E) (S := (aCons (rDt K) (aCons rInt (aCons rInt aNil)))) (E' := (eCons (sVal (rDt K)) (eCons (sVal rInt) (eCons (sVal rInt) eNil)))) (st_par (st_par (st_par st_nil))) rfl (s_if (st_safe (t_or (t_not (t_b (e_call (a_cons (e_var get0) a_nil)))) (t_not (t_of (e_chain (o_ib fun _ _ => rfl) (o_ib fun _ _ => rfl) (e_var gt1) (e_dInt (e_var get0)) (e_var gt2)))))) (s_raiseF (fl := flE) (dat := id) Y_InvalidCount.gl (by decide +kernel) (fun h => h) (fun _ => rfl) (se_safe (e_var get0))) (ss_safe s_nil)) ?_
  exact h
theorem sc_nth_name : FnScope ["index", "first", "last"] ["index"] (defScope (topS 18)) := ⟨rfl, rfl, rfl, by decide +kernel, rfl, by decide +kernel, by decide +kernel⟩
noncomputable def b_nth_name (ρ : (Int × (Unit × (Unit × Unit)))) : M (Ct Unit Unit Str) := (M.thn (M.bind (M.bind (M.bind (M.ret ρ.1) fun x170 => M.bind (M.bind (M.ret (0 : Int)) fun x168 => M.bind (M.bind (M.bind (M.ret (702 : Int)) fun x164 => M.bind (M.ret (1 : Int)) fun x165 => M.ret (x164 - x165)) fun x166 => M.bind (M.ret ()) fun x167 => M.ret (x166, x167)) fun x169 => M.ret (x168, x169)) fun x171 => M.ret (x170, x171)) fun r172 => M.still (m_require_count r172)) fun x173 => M.ret (.nx ρ)) fun ρ => (M.thn (M.bind (M.bind (M.ret ρ.1) fun x177 => M.bind (M.bind (M.bind (M.ret ("abcdefghijklmnopqrstuvwxyz" : Str)) fun x174 => M.bind (M.ret ()) fun x175 => M.ret (x174, x175)) fun r176 => M.need (Str.length r176.1 ≤ sizeLine) (M.ret (Str.length r176.1 : Int))) fun x178 => M.ret (decide (x177 < x178))) fun x182 => M.ifb x182 (M.bind (M.bind (M.ret ("abcdefghijklmnopqrstuvwxyz" : Str)) fun x179 => M.bind (M.ret ρ.1) fun x180 => M.need (x179.length ≤ sizeLine) (M.bind (M.the (atI x179.cps.toList x180)) fun (c : Nat) => M.ret (⟨#[c]⟩ : Str))) fun x181 => M.ret (.rt x181)) (M.ret (.nx ρ))) fun ρ => (M.thn (M.bind (M.bind (M.bind (M.bind (M.ret ρ.1) fun x186 => M.bind (M.bind (M.bind (M.ret ("abcdefghijklmnopqrstuvwxyz" : Str)) fun x183 => M.bind (M.ret ()) fun x184 => M.ret (x183, x184)) fun r185 => M.need (Str.length r185.1 ≤ sizeLine) (M.ret (Str.length r185.1 : Int))) fun x187 => M.ret (x186 - x187)) fun x193 => M.bind (M.bind (M.bind (M.bind (M.ret ("abcdefghijklmnopqrstuvwxyz" : Str)) fun x188 => M.bind (M.ret ()) fun x189 => M.ret (x188, x189)) fun r190 => M.need (Str.length r190.1 ≤ sizeLine) (M.ret (Str.length r190.1 : Int))) fun x191 => M.bind (M.ret ()) fun x192 => M.ret (x191, x192)) fun x194 => M.ret (x193, x194)) fun r195 => M.need (CDiv r195.1 r195.2.1) (M.ret (r195.1 / r195.2.1, r195.1 % r195.2.1, ()))) fun x196 => M.ret (.nx (ρ.1, x196.1, x196.2.1, ρ.2.2.2))) fun ρ => (M.bind (M.bind (M.bind (M.ret ("abcdefghijklmnopqrstuvwxyz" : Str)) fun x197 => M.bind (M.ret ρ.2.1) fun x198 => M.need (x197.length ≤ sizeLine) (M.bind (M.the (atI x197.cps.toList x198)) fun (c : Nat) => M.ret (⟨#[c]⟩ : Str))) fun x201 => M.bind (M.bind (M.ret ("abcdefghijklmnopqrstuvwxyz" : Str)) fun x199 => M.bind (M.ret ρ.2.2.1) fun x200 => M.need (x199.length ≤ sizeLine) (M.bind (M.the (atI x199.cps.toList x200)) fun (c : Nat) => M.ret (⟨#[c]⟩ : Str))) fun x202 => M.need (Str.length x201 + Str.length x202 ≤ sizeLine) (M.ret (x201 ++ x202))) fun x203 => M.ret (.rt x203)))))
noncomputable def m_nth_name (a : (Int × Unit)) : M Str := M.fin (b_nth_name (a.1, ((), ((), ()))))
theorem ok_nth_name (F : Fun K "nth_name" "nth_name" (topS 18) f fd) (g_MANY_NAMES : ∃ tk, mg "MANY_NAMES" = some (.int 702 tk)) (G_require_count : GD P w K mg base "require_count" 4 (spOf (aCons rInt (aCons rInt (aCons rInt aNil))) rNon m_require_count)) (g_LETTERS : ∃ tk, mg "LETTERS" = some (.str "abcdefghijklmnopqrstuvwxyz" tk)) (fr : Free mg) : FnOk P w K mg base CX0 5 f fd ["index"] (spOf (aCons rInt aNil) rStr m_nth_name) := by
  refine F.ok sc_nth_name (fun vs H Q E h => spOf_len h) (fun cdv A outer s H vs Q E hr h => ⟨_, (pss_cons (ps_expr (pe_c1 G_require_count (hr.mono (by decide)) (pa_cons (pv 0) (pa_cons pe_int (pa_cons (pe_op op_sub (pe_glob (v := .int 702) rfl g_MANY_NAMES.choose_spec ⟨_, rfl⟩) pe_int) pa_nil)))))
  (pss_cons (ps_if (pt_cmpR op_lt (pv 0) (pe_callB call_len_str (by rfl) fr.b_len (by decide +kernel) (pa_cons (pe_glob (v := .str "abcdefghijklmnopqrstuvwxyz") rfl g_LETTERS.choose_spec ⟨_, rfl⟩) pa_nil)) (nomark _)) (pss_one (ps_ret (pe_ix (ix_str : IxR _ rIxS) (pe_glob (v := .str "abcdefghijklmnopqrstuvwxyz") rfl g_LETTERS.choose_spec ⟨_, rfl⟩) (pv 0) (fun _ _ => rfl)))) pss_nil)
  (pss_cons (ps_asg (pe_callB call_dvm (by rfl) fr.b_divmod (by decide +kernel) (pa_cons (pe_op op_sub (pv 0) (pe_callB call_len_str (by rfl) fr.b_len (by decide +kernel) (pa_cons (pe_glob (v := .str "abcdefghijklmnopqrstuvwxyz") rfl g_LETTERS.choose_spec ⟨_, rfl⟩) pa_nil))) (pa_cons (pe_callB call_len_str (by rfl) fr.b_len (by decide +kernel) (pa_cons (pe_glob (v := .str "abcdefghijklmnopqrstuvwxyz") rfl g_LETTERS.choose_spec ⟨_, rfl⟩) pa_nil)) pa_nil))) (pg_tup (by rfl) (pgs_cons (pg_name (i := 1) sc_nth_name.nd rfl (by first | exact Or.inl rfl | exact Or.inr rfl)) (pgs_cons (pg_name (i := 2) sc_nth_name.nd rfl (by first | exact Or.inl rfl | exact Or.inr rfl)) pgs_nil))))
  (pss_one (ps_ret (pe_op op_add_str (pe_ix (ix_str : IxR _ rIxS) (pe_glob (v := .str "abcdefghijklmnopqrstuvwxyz") rfl g_LETTERS.choose_spec ⟨_, rfl⟩) (pv 1) (fun _ _ => rfl)) (pe_ix (ix_str : IxR _ rIxS) (pe_glob (v := .str "abcdefghijklmnopqrstuvwxyz") rfl g_LETTERS.choose_spec ⟨_, rfl⟩) (pv 2) (fun _ _ => rfl)))))))), ?_⟩)
  refine fn_body (X := E) (S := (aCons rInt aNil)) (E' := eNil) (R := rStr) (st_par (st_un (st_un st_nil))) rfl (s_seq (s_drop (e_call (a_cons (e_var get0) (a_cons e_int (a_cons (e_op (o_ii fun _ _ => rfl) e_int e_int) a_nil)))))
  (s_seq (s_if (t_of (e_op (o_ib fun _ _ => rfl) (e_var get0) (e_ca c_lenS (a_cons e_str a_nil)))) (s_ret (e_op o_ixS e_str (e_var get0))) s_nil)
  (s_seq (s_asg (e_ca c_divmod (a_cons (e_op (o_ii fun _ _ => rfl) (e_var get0) (e_ca c_lenS (a_cons e_str a_nil))) (a_cons (e_ca c_lenS (a_cons e_str a_nil)) a_nil))) (g_tup (gs_cons (g_name pu1) (gs_cons (g_name pu2) gs_nil)) rfl))
  (s_ret (e_op o_addS (e_op o_ixS e_str (e_var gt1)) (e_op o_ixS e_str (e_var gt2))))))) ?_
  exact h
noncomputable def b_nth_name_X (ρ : (PyData × (Unit × (Unit × Unit)))) : M (Ct Unit Unit Str) := (M.thn (M.bind (M.bind (M.safe (M.bind (M.ret ρ.1) fun x210 => M.bind (M.bind (M.ret (0 : Int)) fun x208 => M.bind (M.bind (M.bind (M.ret (702 : Int)) fun x204 => M.bind (M.ret (1 : Int)) fun x205 => M.ret (x204 - x205)) fun x206 => M.bind (M.ret ()) fun x207 => M.ret (x206, x207)) fun x209 => M.ret (x208, x209)) fun x211 => M.ret (x210, x211))) fun r212 => M.still (m_require_count_X r212)) fun x213 => M.ret (.nx ρ)) fun ρ => (M.thn (M.safe (M.bind (M.bind (M.bind (M.ret ρ.1) fun x214 => M.the (dInt x214)) fun x218 => M.bind (M.bind (M.bind (M.ret ("abcdefghijklmnopqrstuvwxyz" : Str)) fun x215 => M.bind (M.ret ()) fun x216 => M.ret (x215, x216)) fun r217 => M.need (Str.length r217.1 ≤ sizeLine) (M.ret (Str.length r217.1 : Int))) fun x219 => M.ret (decide (x218 < x219))) fun x224 => M.ifb x224 (M.bind (M.bind (M.ret ("abcdefghijklmnopqrstuvwxyz" : Str)) fun x221 => M.bind (M.bind (M.ret ρ.1) fun x220 => M.the (dInt x220)) fun x222 => M.need (x221.length ≤ sizeLine) (M.bind (M.the (atI x221.cps.toList x222)) fun (c : Nat) => M.ret (⟨#[c]⟩ : Str))) fun x223 => M.ret (.rt x223)) (M.ret (.nx ρ)))) fun ρ => (M.thn (M.safe (M.bind (M.bind (M.bind (M.bind (M.bind (M.ret ρ.1) fun x225 => M.the (dInt x225)) fun x229 => M.bind (M.bind (M.bind (M.ret ("abcdefghijklmnopqrstuvwxyz" : Str)) fun x226 => M.bind (M.ret ()) fun x227 => M.ret (x226, x227)) fun r228 => M.need (Str.length r228.1 ≤ sizeLine) (M.ret (Str.length r228.1 : Int))) fun x230 => M.ret (x229 - x230)) fun x236 => M.bind (M.bind (M.bind (M.bind (M.ret ("abcdefghijklmnopqrstuvwxyz" : Str)) fun x231 => M.bind (M.ret ()) fun x232 => M.ret (x231, x232)) fun r233 => M.need (Str.length r233.1 ≤ sizeLine) (M.ret (Str.length r233.1 : Int))) fun x234 => M.bind (M.ret ()) fun x235 => M.ret (x234, x235)) fun x237 => M.ret (x236, x237)) fun r238 => M.need (CDiv r238.1 r238.2.1) (M.ret (r238.1 / r238.2.1, r238.1 % r238.2.1, ()))) fun x239 => M.ret (.nx (ρ.1, x239.1, x239.2.1, ρ.2.2.2)))) fun ρ => (M.safe (M.bind (M.bind (M.bind (M.ret ("abcdefghijklmnopqrstuvwxyz" : Str)) fun x240 => M.bind (M.ret ρ.2.1) fun x241 => M.need (x240.length ≤ sizeLine) (M.bind (M.the (atI x240.cps.toList x241)) fun (c : Nat) => M.ret (⟨#[c]⟩ : Str))) fun x244 => M.bind (M.bind (M.ret ("abcdefghijklmnopqrstuvwxyz" : Str)) fun x242 => M.bind (M.ret ρ.2.2.1) fun x243 => M.need (x242.length ≤ sizeLine) (M.bind (M.the (atI x242.cps.toList x243)) fun (c : Nat) => M.ret (⟨#[c]⟩ : Str))) fun x245 => M.need (Str.length x244 + Str.length x245 ≤ sizeLine) (M.ret (x244 ++ x245))) fun x246 => M.ret (.rt x246))))))
noncomputable def m_nth_name_X (a : (PyData × Unit)) : M Str := M.fin (b_nth_name_X (a.1, ((), ((), ()))))
theorem ok_nth_name_X (F : Fun K "nth_name" "nth_name" (topS 18) f fd) (g_MANY_NAMES : ∃ tk, mg "MANY_NAMES" = some (.int 702 tk)) (R_require_count : GR P w K mg base "require_count" 4 (spOfF K mg flE (aCons (rDt K) (aCons rInt (aCons rInt aNil))) rNon m_require_count_X)) (g_LETTERS : ∃ tk, mg "LETTERS" = some (.str "abcdefghijklmnopqrstuvwxyz" tk)) (fr : Free mg) : FnOk P w K mg base (L2.CX P w) 5 f fd ["index"] (spOfF K mg flE (aCons (rDt K) aNil) rStr m_nth_name_X) := by
  refine F.okX sc_nth_name (fun vs H Q E h => spOfF_len h) (fun cdv A outer s H vs Q E hr h => ⟨_, (pss_cons (ps_expr (pe_cX (takes_of rfl rfl rfl rfl) R_require_count (hr.mono (by decide)) (pa_cons (pv 0) (pa_cons pe_int (pa_cons (pe_op op_sub (pe_glob (v := .int 702) rfl g_MANY_NAMES.choose_spec ⟨_, rfl⟩) pe_int) pa_nil)))))
  (pss_cons (ps_if (pt_cmpR op_lt (pv 0) (pe_callB call_len_str (by rfl) fr.b_len (by decide +kernel) (pa_cons (pe_glob (v := .str "abcdefghijklmnopqrstuvwxyz") rfl g_LETTERS.choose_spec ⟨_, rfl⟩) pa_nil)) (nomark _)) (pss_one (ps_ret (pe_ix (ix_str : IxR _ rIxS) (pe_glob (v := .str "abcdefghijklmnopqrstuvwxyz") rfl g_LETTERS.choose_spec ⟨_, rfl⟩) (pv 0) (fun _ _ => rfl)))) pss_nil)
  (pss_cons (ps_asg (pe_callB call_dvm (by rfl) fr.b_divmod (by decide +kernel) (pa_cons (pe_op op_sub (pv 0) (pe_callB call_len_str (by rfl) fr.b_len (by decide +kernel) (pa_cons (pe_glob (v := .str "abcdefghijklmnopqrstuvwxyz") rfl g_LETTERS.choose_spec ⟨_, rfl⟩) pa_nil))) (pa_cons (pe_callB call_len_str (by rfl) fr.b_len (by decide +kernel) (pa_cons (pe_glob (v := .str "abcdefghijklmnopqrstuvwxyz") rfl g_LETTERS.choose_spec ⟨_, rfl⟩) pa_nil)) pa_nil))) (pg_tup (by rfl) (pgs_cons (pg_name (i := 1) sc_nth_name.nd rfl (by first | exact Or.inl rfl | exact Or.inr rfl)) (pgs_cons (pg_name (i := 2) sc_nth_name.nd rfl (by first | exact Or.inl rfl | exact Or.inr rfl)) pgs_nil))))
  (pss_one (ps_ret (pe_op op_add_str (pe_ix (ix_str : IxR _ rIxS) (pe_glob (v := .str "abcdefghijklmnopqrstuvwxyz") rfl g_LETTERS.choose_spec ⟨_, rfl⟩) (pv 1) (fun _ _ => rfl)) (pe_ix (ix_str : IxR _ rIxS) (pe_glob (v := .str "abcdefghijklmnopqrstuvwxyz") rfl g_LETTERS.choose_spec ⟨_, rfl⟩) (pv 2) (fun _ _ => rfl)))))))), ?_⟩)
  refine fn_bodyF (K := K) (X := E) (S := (aCons (rDt K) aNil)) (E' := eNil) (R := rStr) (st_par (st_un (st_un st_nil))) rfl (s_seq (s_drop (e_callF (fun _ => rfl) (sa_safe (a_cons (e_var get0) (a_cons e_int (a_cons (e_op (o_ii fun _ _ => rfl) e_int e_int) a_nil))))))
  (s_seq (ss_safe (s_if (t_of (e_op (o_ib fun _ _ => rfl) (e_dInt (e_var get0)) (e_ca c_lenS (a_cons e_str a_nil)))) (s_ret (e_op o_ixS e_str (e_dInt (e_var get0)))) s_nil))
  (s_seq (ss_safe (s_asg (e_ca c_divmod (a_cons (e_op (o_ii fun _ _ => rfl) (e_dInt (e_var get0)) (e_ca c_lenS (a_cons e_str a_nil))) (a_cons (e_ca c_lenS (a_cons e_str a_nil)) a_nil))) (g_tup (gs_cons (g_name pu1) (gs_cons (g_name pu2) gs_nil)) rfl)))
  (ss_safe (s_ret (e_op o_addS (e_op o_ixS e_str (e_var gt1)) (e_op o_ixS e_str (e_var gt2)))))))) ?_
  exact h
theorem sc_new_names : FnScope ["names", "many", "found", "index", "name"] ["names", "many"] (defScope (topS 19)) := ⟨rfl, rfl, rfl, by decide +kernel, rfl, by decide +kernel, by decide +kernel⟩
noncomputable def b_new_names (ρ : ((List Str) × (Int × (Unit × (Unit × (Unit × Unit)))))) : M (Ct Unit Unit (List Str)) := (M.thn (M.bind (M.bind (M.bind (M.bind (M.bind (M.ret ρ.1) fun x247 => M.bind (M.ret ()) fun x248 => M.ret (x247, x248)) fun r249 => M.still (m_are_names r249)) fun x250 => M.ret (!x250)) fun x256 => M.ifb x256 (M.ret true) (M.bind (M.bind (M.bind (M.ret ρ.1) fun x251 => M.bind (M.ret ()) fun x252 => M.ret (x251, x252)) fun r253 => M.ret (r253.1.length : Int)) fun x254 => M.bind (M.ret (200 : Int)) fun x255 => M.ret (decide (x255 < x254)))) fun x257 => M.ifb x257 M.none (M.ret (.nx ρ))) fun ρ => (M.thn (M.bind (M.bind (M.bind (M.ret ρ.2.1) fun x262 => M.bind (M.bind (M.ret (0 : Int)) fun x260 => M.bind (M.bind (M.ret (100 : Int)) fun x258 => M.bind (M.ret ()) fun x259 => M.ret (x258, x259)) fun x261 => M.ret (x260, x261)) fun x263 => M.ret (x262, x263)) fun r264 => M.still (m_require_count r264)) fun x265 => M.ret (.nx ρ)) fun ρ => (M.thn (M.bind (M.bind (M.ret ()) fun _ => M.ret []) fun x266 => M.ret (.nx (ρ.1, ρ.2.1, x266, ρ.2.2.2))) fun ρ => (M.thn (M.bind (M.ret (0 : Int)) fun x267 => M.ret (.nx (ρ.1, ρ.2.1, ρ.2.2.1, x267, ρ.2.2.2.2))) fun ρ => (M.thn (M.whileM (fun ρ => (M.bind (M.ret (ρ.2.2.1.length : Int)) fun x268 => M.bind (M.ret ρ.2.1) fun x269 => M.ret (decide (x268 < x269)))) (fun ρ => (M.thn (M.thn (M.bind (M.bind (M.bind (M.ret ρ.2.2.2.1) fun x270 => M.bind (M.ret ()) fun x271 => M.ret (x270, x271)) fun r272 => M.still (m_nth_name r272)) fun x273 => M.ret (.nx (ρ.1, ρ.2.1, ρ.2.2.1, ρ.2.2.2.1, x273, ρ.2.2.2.2.2))) fun ρ => (M.thn (M.bind (M.ret (1 : Int)) fun x274 => M.ret (.nx (ρ.1, ρ.2.1, ρ.2.2.1, ρ.2.2.2.1 + x274, ρ.2.2.2.2))) fun ρ => (M.bind (M.bind (M.ret ρ.2.2.2.2.1) fun x275 => M.bind (M.ret ρ.1) fun x276 => M.ret (!decide (x275 ∈ x276))) fun x278 => M.ifb x278 (M.bind (M.ret ρ.2.2.2.2.1) fun x277 => M.need (ρ.2.2.1.length < sizeLine) (M.ret (.nx (ρ.1, ρ.2.1, ρ.2.2.1 ++ [x277], ρ.2.2.2)))) (M.ret (.nx ρ))))) fun ρ => M.ret (.nx (ρ.1, ρ.2.1, ρ.2.2.1, ρ.2.2.2.1, (), ρ.2.2.2.2.2)))) ρ) fun ρ => (M.bind (M.bind (M.bind (M.ret ρ.2.2.1) fun x279 => M.bind (M.ret ()) fun x280 => M.ret (x279, x280)) fun r281 => M.ret r281.1) fun x282 => M.ret (.rt x282)))))))
noncomputable def m_new_names (a : ((List Str) × (Int × Unit))) : M (List Str) := M.fin (b_new_names (a.1, (a.2.1, ((), ((), ((), ()))))))
theorem ok_new_names (F : Fun K "new_names" "new_names" (topS 19) f fd) (G_are_names : GD P w K mg base "are_names" 3 (spOf (aCons (rTup K rStr) aNil) rBl m_are_names)) (fr : Free mg) (g_MOST_USED : ∃ tk, mg "MOST_USED" = some (.int 200 tk)) (g_MOST_NEW : ∃ tk, mg "MOST_NEW" = some (.int 100 tk)) (G_require_count : GD P w K mg base "require_count" 4 (spOf (aCons rInt (aCons rInt (aCons rInt aNil))) rNon m_require_count)) (G_nth_name : GD P w K mg base "nth_name" 5 (spOf (aCons rInt aNil) rStr m_nth_name)) : FnOk P w K mg base CX0 6 f fd ["names", "many"] (spOf (aCons (rTup K rStr) (aCons rInt aNil)) (rTup K rStr) m_new_names) := by
  refine F.ok sc_new_names (fun vs H Q E h => spOf_len h) (fun cdv A outer s H vs Q E hr h => ⟨_, (pss_cons (ps_if (PW.pt (pw_or (pt_not (pt_val (pe_c1 G_are_names (hr.mono (by decide)) (pa_cons (pv 0) pa_nil)))) (pw_or1 (pt_cmpR op_gt (pe_callB call_len (by rfl) fr.b_len (by decide +kernel) (pa_cons (pv 0) pa_nil)) (pe_glob (v := .int 200) rfl g_MOST_USED.choose_spec ⟨_, rfl⟩) (nomark _))))) (pss_one ps_never) pss_nil)
  (pss_cons (ps_expr (pe_c1 G_require_count (hr.mono (by decide)) (pa_cons (pv 1) (pa_cons pe_int (pa_cons (pe_glob (v := .int 100) rfl g_MOST_NEW.choose_spec ⟨_, rfl⟩) pa_nil)))))
  (pss_cons (ps_set (i := 2) sc_new_names.nd rfl (by first | exact Or.inl rfl | exact Or.inr rfl) (pe_lst pa_nil))
  (pss_cons (ps_set (i := 3) sc_new_names.nd rfl (by first | exact Or.inl rfl | exact Or.inr rfl) pe_int)
  (pss_cons (ps_while PassesOwn.never (pt_cmpR op_lt (pe_callB call_len (by rfl) fr.b_len (by decide +kernel) (pa_cons (pv 2) pa_nil)) (pv 1) (nomark _)) (pss_cons (ps_set (i := 4) sc_new_names.nd rfl (by first | exact Or.inl rfl | exact Or.inr rfl) (pe_c1 G_nth_name (hr.mono (by decide)) (pa_cons (pv 3) pa_nil)))
  (pss_cons (ps_aug (i := 3) sc_new_names.nd rfl (by first | exact Or.inl rfl | exact Or.inr rfl) pe_int ip_add)
  (pss_one (ps_if (pt_cmpR op_notIn_seq (pv 4) (pv 0) (by rfl)) (pss_one (ps_expr (pe_bm PySem.F.plainAttrs_list PySem.F.slot_list_append PySem.F.type_list_append mt_append (pv 2) (pa_cons (pv 4) pa_nil)))) pss_nil)))))
  (pss_one (ps_ret (pe_callTy call_tuple_of (by rfl) fr.b_tuple (by decide +kernel) (pa_cons (pv 2) pa_nil))))))))), ?_⟩)
  refine fn_body (X := E) (S := (aCons (rTup K rStr) (aCons rInt aNil))) (E' := eNil) (R := (rTup K rStr)) (st_par (st_par (st_un (st_un (st_un st_nil))))) rfl (s_seq (s_if (t_or (t_not (t_b (e_call (a_cons (e_var get0) a_nil)))) (t_of (e_op (o_ib fun _ _ => rfl) (e_ca (c_len len_tup) (a_cons (e_var get0) a_nil)) e_int))) s_never s_nil)
  (s_seq (s_drop (e_call (a_cons (e_var gt1) (a_cons e_int (a_cons e_int a_nil)))))
  (s_seq (s_new (n_lst (Ra := rStr) hom_nil a_nil (le_n 0)) pu2)
  (s_seq (s_asg e_int (g_name pu3))
  (s_seq (s_while (t_of (e_op (o_ib fun _ _ => rfl) (e_lenO mo2) (e_var gt1))) (s_post (s_seq (s_asg (e_call (a_cons (e_var gt3) a_nil)) (g_name pu4))
  (s_seq (s_aug gt3 e_int pu3)
  (s_if (t_of (e_op (o_notIn fl_str sq_tup) (e_var gt4) (e_var get0))) (s_append mo2 (e_var gt4)) s_nil))) (wk_fg (fg_keep (fg_keep (fg_keep (fg_keep (fg_un fg_nil))))))))
  (s_pre (wk_fz fzz2) (s_ret (e_ca c_tupL (a_cons (e_var gt2) a_nil))))))))) ?_
  exact h
noncomputable def b_new_names_X (ρ : (PyData × (PyData × (Unit × (Unit × (Unit × Unit)))))) : M (Ct Unit Unit (List Str)) := (M.thn (M.bind (M.safe (M.bind (M.bind (M.bind (M.bind (M.ret ρ.1) fun x283 => M.bind (M.ret ()) fun x284 => M.ret (x283, x284)) fun r285 => M.still (m_are_names_D r285)) fun x286 => M.ret (!x286)) fun x293 => M.ifb x293 (M.ret true) (M.bind (M.bind (M.bind (M.bind (M.ret ρ.1) fun x287 => M.the (dTupS x287)) fun x288 => M.bind (M.ret ()) fun x289 => M.ret (x288, x289)) fun r290 => M.ret (r290.1.length : Int)) fun x291 => M.bind (M.ret (200 : Int)) fun x292 => M.ret (decide (x292 < x291))))) fun x294 => M.ifb x294 (M.raise ⟨"InvalidOperation", .none⟩) (M.safe (M.ret (.nx ρ)))) fun ρ => (M.thn (M.bind (M.bind (M.safe (M.bind (M.ret ρ.2.1) fun x299 => M.bind (M.bind (M.ret (0 : Int)) fun x297 => M.bind (M.bind (M.ret (100 : Int)) fun x295 => M.bind (M.ret ()) fun x296 => M.ret (x295, x296)) fun x298 => M.ret (x297, x298)) fun x300 => M.ret (x299, x300))) fun r301 => M.still (m_require_count_X r301)) fun x302 => M.ret (.nx ρ)) fun ρ => (M.thn (M.safe (M.bind (M.bind (M.ret ()) fun _ => M.ret []) fun x303 => M.ret (.nx (ρ.1, ρ.2.1, x303, ρ.2.2.2)))) fun ρ => (M.thn (M.safe (M.bind (M.ret (0 : Int)) fun x304 => M.ret (.nx (ρ.1, ρ.2.1, ρ.2.2.1, x304, ρ.2.2.2.2)))) fun ρ => (M.thn (M.whileM (fun ρ => (M.bind (M.ret (ρ.2.2.1.length : Int)) fun x306 => M.bind (M.bind (M.ret ρ.2.1) fun x305 => M.the (dInt x305)) fun x307 => M.ret (decide (x306 < x307)))) (fun ρ => (M.thn (M.thn (M.bind (M.bind (M.safe (M.bind (M.bind (M.ret ρ.2.2.2.1) fun x308 => M.ret (PyData.int x308)) fun x309 => M.bind (M.ret ()) fun x310 => M.ret (x309, x310))) fun r311 => M.still (m_nth_name_X r311)) fun x312 => M.ret (.nx (ρ.1, ρ.2.1, ρ.2.2.1, ρ.2.2.2.1, x312, ρ.2.2.2.2.2))) fun ρ => (M.thn (M.safe (M.bind (M.ret (1 : Int)) fun x313 => M.ret (.nx (ρ.1, ρ.2.1, ρ.2.2.1, ρ.2.2.2.1 + x313, ρ.2.2.2.2)))) fun ρ => (M.safe (M.bind (M.bind (M.ret ρ.2.2.2.2.1) fun x315 => M.bind (M.bind (M.ret ρ.1) fun x314 => M.the (dTupS x314)) fun x316 => M.ret (!decide (x315 ∈ x316))) fun x318 => M.ifb x318 (M.bind (M.ret ρ.2.2.2.2.1) fun x317 => M.need (ρ.2.2.1.length < sizeLine) (M.ret (.nx (ρ.1, ρ.2.1, ρ.2.2.1 ++ [x317], ρ.2.2.2)))) (M.ret (.nx ρ)))))) fun ρ => M.ret (.nx (ρ.1, ρ.2.1, ρ.2.2.1, ρ.2.2.2.1, (), ρ.2.2.2.2.2)))) ρ) fun ρ => (M.safe (M.bind (M.bind (M.bind (M.ret ρ.2.2.1) fun x319 => M.bind (M.ret ()) fun x320 => M.ret (x319, x320)) fun r321 => M.ret r321.1) fun x322 => M.ret (.rt x322))))))))
noncomputable def m_new_names_X (a : (PyData × (PyData × Unit))) : M (List Str) := M.fin (b_new_names_X (a.1, (a.2.1, ((), ((), ((), ()))))))
theorem ok_new_names_X (F : Fun K "new_names" "new_names" (topS 19) f fd) {A_InvalidOperation : Addr} (G_are_names_D : GD P w K mg base "are_names" 3 (spOf (aCons (rDt K) aNil) rBl m_are_names_D)) (fr : Free mg) (g_MOST_USED : ∃ tk, mg "MOST_USED" = some (.int 200 tk)) (X_InvalidOperation : GX K mg "InvalidOperation" A_InvalidOperation) (g_MOST_NEW : ∃ tk, mg "MOST_NEW" = some (.int 100 tk)) (R_require_count : GR P w K mg base "require_count" 4 (spOfF K mg flE (aCons (rDt K) (aCons rInt (aCons rInt aNil))) rNon m_require_count_X)) (R_nth_name : GR P w K mg base "nth_name" 5 (spOfF K mg flE (aCons (rDt K) aNil) rStr m_nth_name_X)) : FnOk P w K mg base (L2.CX P w) 6 f fd ["names", "many"] (spOfF K mg flE (aCons (rDt K) (aCons (rDt K) aNil)) (rTup K rStr) m_new_names_X) := by
  refine F.okX sc_new_names (fun vs H Q E h => spOfF_len h) (fun cdv A outer s H vs Q E hr h => ⟨_, (pss_cons (ps_if (PW.pt (pw_or (pt_not (pt_val (pe_c1 G_are_names_D (hr.mono (by decide)) (pa_cons (pv 0) pa_nil)))) (pw_or1 (pt_cmpR op_gt (pe_callB call_len (by rfl) fr.b_len (by decide +kernel) (pa_cons (pv 0) pa_nil)) (pe_glob (v := .int 200) rfl g_MOST_USED.choose_spec ⟨_, rfl⟩) (nomark _))))) (pss_one (ps_raiseX (takes_of rfl rfl rfl rfl) X_InvalidOperation)) pss_nil)
  (pss_cons (ps_expr (pe_cX (takes_of rfl rfl rfl rfl) R_require_count (hr.mono (by decide)) (pa_cons (pv 1) (pa_cons pe_int (pa_cons (pe_glob (v := .int 100) rfl g_MOST_NEW.choose_spec ⟨_, rfl⟩) pa_nil)))))
  (pss_cons (ps_set (i := 2) sc_new_names.nd rfl (by first | exact Or.inl rfl | exact Or.inr rfl) (pe_lst pa_nil))
  (pss_cons (ps_set (i := 3) sc_new_names.nd rfl (by first | exact Or.inl rfl | exact Or.inr rfl) pe_int)
  (pss_cons (ps_while (passes_of rfl) (pt_cmpR op_lt (pe_callB call_len (by rfl) fr.b_len (by decide +kernel) (pa_cons (pv 2) pa_nil)) (pv 1) (nomark _)) (pss_cons (ps_set (i := 4) sc_new_names.nd rfl (by first | exact Or.inl rfl | exact Or.inr rfl) (pe_cX (takes_of rfl rfl rfl rfl) R_nth_name (hr.mono (by decide)) (pa_cons (pv 3) pa_nil)))
  (pss_cons (ps_aug (i := 3) sc_new_names.nd rfl (by first | exact Or.inl rfl | exact Or.inr rfl) pe_int ip_add)
  (pss_one (ps_if (pt_cmpR op_notIn_seq (pv 4) (pv 0) (by rfl)) (pss_one (ps_expr (pe_bm PySem.F.plainAttrs_list PySem.F.slot_list_append PySem.F.type_list_append mt_append (pv 2) (pa_cons (pv 4) pa_nil)))) pss_nil)))))
  (pss_one (ps_ret (pe_callTy call_tuple_of (by rfl) fr.b_tuple (by decide +kernel) (pa_cons (pv 2) pa_nil))))))))), ?_⟩)
  refine fn_bodyF (K := K) (X := E) (S := (aCons (rDt K) (aCons (rDt K) aNil))) (E' := eNil) (R := (rTup K rStr)) (st_par (st_par (st_un (st_un (st_un st_nil))))) rfl (s_seq (s_if (st_safe (t_or (t_not (t_b (e_call (a_cons (e_var get0) a_nil)))) (t_of (e_op (o_ib fun _ _ => rfl) (e_ca (c_len len_tup) (a_cons (e_dTupS (e_var get0)) a_nil)) e_int)))) (s_raiseN (fl := flE) X_InvalidOperation.gl (by decide +kernel) (fun _ => rfl)) (ss_safe s_nil))
  (s_seq (s_drop (e_callF (fun _ => rfl) (sa_safe (a_cons (e_var gt1) (a_cons e_int (a_cons e_int a_nil))))))
  (s_seq (ss_safe (s_new (n_lst (Ra := rStr) hom_nil a_nil (le_n 0)) pu2))
  (s_seq (ss_safe (s_asg e_int (g_name pu3)))
  (s_seq (s_while (t_of (e_op (o_ib fun _ _ => rfl) (e_lenO mo2) (e_dInt (e_var gt1)))) (s_post (s_seq (s_asg (e_callF (fun _ => rfl) (sa_safe (a_cons (e_dat dp_int (e_var gt3)) a_nil))) (g_name pu4))
  (s_seq (ss_safe (s_aug gt3 e_int pu3))
  (ss_safe (s_if (t_of (e_op (o_notIn fl_str sq_tup) (e_var gt4) (e_dTupS (e_var get0)))) (s_append mo2 (e_var gt4)) s_nil)))) (wk_fg (fg_keep (fg_keep (fg_keep (fg_keep (fg_un fg_nil))))))))
  (ss_safe (s_pre (wk_fz fzz2) (s_ret (e_ca c_tupL (a_cons (e_var gt2) a_nil)))))))))) ?_
  exact h
end
end PF2
set_option maxHeartbeats 400000
namespace PF
open PySem PySem.Spec PyProof.Rows L2 SlX
def kD : Key → PyData
  | .inl i => .int i
  | .inr x => .str x
def AtV (v : V) (d : PyData) : Prop := (v = .non ∧ d = .none) ∨ (∃ b, v = .bl b ∧ d = .bool b) ∨ (∃ i, v = .int i ∧ d = .int i) ∨ (∃ x, v = .str x ∧ d = .str x)
theorem AtV.reads {h : Heap} {v : V} {d : PyData} {u : Value} (a : AtV v d) (r : RelV v u) : Reads h u d [] := by
  rcases a with ⟨rfl, rfl⟩ | ⟨b, rfl, rfl⟩ | ⟨i, rfl, rfl⟩ | ⟨x, rfl, rfl⟩
  · obtain rfl : u = Value.none := r
    exact .none
  · obtain rfl : u = Value.bool b := r
    exact .bool b
  · obtain ⟨t, rfl⟩ : ∃ t, u = Value.int i t := r
    exact .int i t
  · obtain ⟨t, rfl⟩ : ∃ t, u = Value.str x t := r
    exact .str x t
theorem key_reads {h : Heap} {k : Key} {u : Value} (e : keyIs k u = true) : Reads h u (kD k) [] := by
  rcases keyIs_shape e with ⟨i, t, rfl, rfl⟩ | ⟨x, t, rfl, rfl⟩
  · exact .int i t
  · exact .str x t
def AtE : List (Key × V) → List (PyData × PyData) → Prop := Paired fun a d => d.1 = kD a.1 ∧ AtV a.2 d.2
theorem ents_reads {P : Program} {w : World} {h : Heap} : ∀ {kvs : List (Key × V)} {vs : List (Key × Value)} {es : List DictEntry} {ds : List (PyData × PyData)}, KV kvs vs → Pairs (mixKind P w) es vs → AtE kvs ds →
    ReadsAll h (es.map (·.key)) (ds.map (·.1)) [] ∧ ReadsAll h (es.map (·.val)) (ds.map (·.2)) []
  | _, _, _, _, .nil, .nil, .nil => ⟨.nil, .nil⟩
  | (k, v) :: kvs, (k', u) :: vs, e :: es, (d1, d2) :: ds, .cons ⟨e1, r⟩ t, .cons i1 i2 t2, .cons ⟨a1, a2⟩ t3 => by
    obtain ⟨h1, h2⟩ := ents_reads (h := h) t t2 t3
    have e1 : k = k' := e1
    subst e1
    have a1 : d1 = kD k := a1
    subst a1
    have i2 : e.val = u := i2
    refine ⟨.cons (as := []) (bs := []) (key_reads i1) h1, .cons (as := []) (bs := []) ?_ h2⟩
    show Reads h e.val d2 []
    rw [i2]
    exact AtV.reads a2 r
section
variable {μ : Md} {K : PySem.W.Frag} {α κ : Type} {Ra : Rp α}
structure AtR (R : Rp α) (d : α → PyData) : Prop where
  at_ : ∀ {F : Hp} {v : V} {a : α}, R.r F v a → AtV v (d a)
end
def rReprD0 : List V → Hp → VK → Prop := fun xs H Q => ∃ p, xs = [.ref p] ∧ H p = some (.dK []) ∧ Q (.str (PyData.dict []).shown) H
theorem call_reprD0 {X : Cx} (hg : X.A.guards = some []) (hu : X.A.units + 100 < cLine) : CallR X (.builtin "repr") rReprD0 := by
  intro pins st sg G xs us R J r h
  obtain ⟨p, rfl, hp, q⟩ := h
  obtain ⟨u, rfl, ru⟩ := r.one
  obtain rfl : u = Value.ref p := ru
  obtain ⟨len, ns, vs, kv, o', es, ep, g', ex, dt, ko, pr, nd⟩ := J.hok p _ hp
  obtain ⟨r1, r2⟩ := ents_reads (h := st.heap) kv pr (ds := []) .nil
  have ns' : p ≠ sysModules := fun e => by rw [e] at ns; simp at ns
  exact repr_of_reads' (.dict (as := []) (bs := []) g' ex.1 dt r1 r2) (by decide) (fun _ hm => by
    rcases List.mem_append.mp hm with hm | hm
    · rcases List.mem_cons.mp hm with hm | hm
      · exact ns' hm.symm
      · cases hm
    · cases hm) hg (by have : (PyData.dict []).depth = 1 := by decide
                       simp only [List.map_nil] at *; omega) (fun _ _ e => e) (fun h' u tk hk => ⟨V.str (PyData.shown _), G, J.kept hk, ⟨_, rfl⟩, q⟩) (by rw [sizeLine_eq]; decide)
def rReprE (K : PySem.W.Frag) : List V → Hp → VK → Prop := fun xs H Q => rRepr K xs H Q ∨ rReprD0 xs H Q
theorem call_reprE {X : Cx} (hg : X.A.guards = some []) (hu : X.A.units + 100 < cLine) : CallR X (.builtin "repr") (rReprE X.K) := by
  intro pins st sg G xs us R J r h
  rcases h with h | h
  · exact call_repr hg hu pins st sg G xs us R J r h
  · exact call_reprD0 hg hu pins st sg G xs us R J r h
section
variable {μ : Md} {K : PySem.W.Frag}
theorem c_reprE : CaS μ (rReprE K) (a1 (rDt K)) rStr fun a => .need ((a.1.showable = true ∧ a.1.hasDict = false ∧ a.1.shown.length ≤ sizeLine ∧ a.1.depth ≤ 64) ∨ a.1 = .dict []) (.ret a.1.shown) := fun k F H c vs a Q w r q => by
  obtain ⟨v, e, r⟩ := one r
  rcases r with r | ⟨z, p, e2, hp⟩
  · rcases q.1 with y | y
    · exact .inl ⟨v, a.1, e, dp_same w.sub _ _ r, y.1, y.2.1, y.2.2.1, y.2.2.2, VP.now w q.2 rfl⟩
    · rw [y] at r; cases r
  · subst e2
    exact .inr ⟨p, e, w.sub _ _ hp, by have := VP.now w q.2 rfl; rw [z] at this; exact this⟩
end
end PF
set_option maxHeartbeats 4000000
namespace PF2
open PF PySem PySem.Spec PyProof.Rows L2 SlX
section
variable {P : Program} {w : World} {K : PySem.W.Frag} {mg : Str → Option Value} {base : Heap} {f CO CN CF CE : Addr} {fd : FuncData}
theorem sc__law_mixed : FnScope ["_law_dice_here", "_law_items", "_law_left", "_law_found", "_law_turn"] ["_law_dice_here", "_law_items"] (defScope (topS 24)) := ⟨rfl, rfl, rfl, by decide +kernel, rfl, by decide +kernel, by decide +kernel⟩
noncomputable def b__law_mixed (ρ : (Unit × ((List Str) × (Unit × (Unit × (Unit × Unit)))))) : M (Ct Unit Unit (List Str)) := (M.thn (M.bind (M.bind (M.bind (M.ret ρ.2.1) fun x1 => M.bind (M.ret ()) fun x2 => M.ret (x1, x2)) fun r3 => M.ret r3.1) fun x4 => M.bind (M.bind (M.ret ()) fun _ => M.ret []) fun x5 => M.ret (.nx (ρ.1, ρ.2.1, x4, x5, ρ.2.2.2.2.1, ρ.2.2.2.2.2))) fun ρ => (M.thn (M.bind (M.bind (M.bind (M.bind (M.ret ρ.2.1) fun x6 => M.bind (M.ret ()) fun x7 => M.ret (x6, x7)) fun r8 => M.ret (r8.1.length : Int)) fun x9 => M.need (-(2 ^ 62) ≤ x9 ∧ x9 < 2 ^ 62) (M.ret (rng 0 x9))) fun l14 => M.forM l14 (fun (a10 : Int) (ρ : (Unit × ((List Str) × ((List Str) × ((List Str) × (Unit × Unit)))))) => (fun ρ => (M.thn (M.bind (M.bind (M.ret (ρ.2.2.1.length : Int)) fun x11 => M.roll x11) fun x13 => M.need (ρ.2.2.1.length ≤ 2 ^ 62 ∧ 0 ≤ x13) (M.bind (M.the ρ.2.2.1[Int.toNat x13]?) fun (a12 : Str) => M.need (ρ.2.2.2.1.length < sizeLine) (M.ret (.nx (ρ.1, ρ.2.1, ρ.2.2.1.eraseIdx (Int.toNat x13), ρ.2.2.2.1 ++ [a12], ρ.2.2.2.2.1, ρ.2.2.2.2.2))))) fun ρ => M.ret (.nx (ρ.1, ρ.2.1, ρ.2.2.1, ρ.2.2.2.1, (), ρ.2.2.2.2.2)))) (ρ.1, ρ.2.1, ρ.2.2.1, ρ.2.2.2.1, a10, ρ.2.2.2.2.2)) ρ) fun ρ => (M.bind (M.ret ρ.2.2.2.1) fun x15 => M.ret (.rt x15))))
noncomputable def m__law_mixed (a : ((List Str) × Unit)) : M (List Str) := M.fin (b__law_mixed ((), (a.1, ((), ((), ((), ()))))))
theorem ok__law_mixed (F : Fun K "_law_mixed" "_law_mixed" (topS 24) f fd) (fr : Free mg) (G__law_roll : GD P w K mg base "_law_roll" 2 spRoll) : FnOk P w K mg base CX0 3 f fd ["_law_dice_here", "_law_items"] (spOfD (aCons (rLs rStr) aNil) (rLs rStr) m__law_mixed) := by
  refine F.ok sc__law_mixed (fun vs H Q E h => spOfD_len h) (fun cdv A outer s H vs Q E hr h => ⟨_, (pss_cons (ps_par (i := 2) (j := 3) (by rfl) sc__law_mixed.nd rfl rfl (by decide) rfl rfl (pa_cons (pe_callTy call_list_of (by rfl) fr.b_list (by decide +kernel) (pa_cons (pv 1) pa_nil)) (pa_cons (pe_lst pa_nil) pa_nil)) (by rfl))
  (pss_cons (ps_for PassesOwn.never rfl (pi_range1 (by rfl) fr.b_range (pa_cons (pe_callB call_len (by rfl) fr.b_len (by decide +kernel) (pa_cons (pv 1) pa_nil)) pa_nil)) (pg_name (i := 4) sc__law_mixed.nd rfl (by first | exact Or.inl rfl | exact Or.inr rfl)) (pss_one (ps_expr (pe_bm PySem.F.plainAttrs_list PySem.F.slot_list_append PySem.F.type_list_append mt_append (pv 3) (pa_cons (pe_bm PySem.F.plainAttrs_list PySem.F.slot_list_pop PySem.F.type_list_pop mt_popAt (pv 2) (pa_cons (pe_c1 G__law_roll (hr.mono (by decide)) (pa_cons (pv 0) (pa_cons (pe_callB call_len (by rfl) fr.b_len (by decide +kernel) (pa_cons (pv 2) pa_nil)) pa_nil))) pa_nil)) pa_nil)))))
  (pss_one (ps_ret (pv 3))))), ?_⟩)
  refine fn_bodyD (X := E) (S := (aCons (rLs rStr) aNil)) (E' := eNil) (R := (rLs rStr)) (st_dice (st_par (st_un (st_un (st_un st_nil))))) rfl (s_seq (s_parV (sv_n (n_ca c_listL (a_cons (e_var gt1) a_nil))) (sv_n (n_lst (Ra := rStr) hom_nil a_nil (le_n 0))) pu2 pu3)
  (s_seq (s_for (i_rng1 (e_ca (c_len len_ls) (a_cons (e_var gt1) a_nil))) (g_name pu4) (s_post (s_appendPop mo3 mo2 (fun _ _ => rfl) (e_roll get0 (e_lenO mo2))) (wk_fg (fg_keep (fg_keep (fg_keep (fg_keep (fg_un fg_nil))))))))
  (s_pre (wk_fz fzz3) (s_ret (e_var gt3))))) ?_
  exact h
theorem sc__law_some : FnScope ["_law_dice_here", "_law_items", "_law_item"] ["_law_dice_here", "_law_items"] (defScope (topS 25)) := ⟨rfl, rfl, rfl, by decide +kernel, rfl, by decide +kernel, by decide +kernel⟩
noncomputable def b__law_some (ρ : (Unit × ((List Str) × (Unit × Unit)))) : M (Ct Unit Unit (List Str)) := (M.bind (M.bind (M.ret ρ.2.1) fun l20 => M.need (l20.length ≤ 1000000) (M.lcM l20 fun (a21 : Str) => M.bind ((fun ρ => (M.bind (M.bind (M.ret (2 : Int)) fun x16 => M.roll x16) fun x17 => M.bind (M.ret (0 : Int)) fun x18 => M.ret (decide (x17 = x18)))) (ρ.1, ρ.2.1, a21, ρ.2.2.2)) fun (b22 : Bool) => M.ifb b22 (M.bind ((fun ρ => (M.ret ρ.2.2.1)) (ρ.1, ρ.2.1, a21, ρ.2.2.2)) fun (y23 : Str) => M.ret (some y23)) (M.ret none))) fun x24 => M.ret (.rt x24))
noncomputable def m__law_some (a : ((List Str) × Unit)) : M (List Str) := M.fin (b__law_some ((), (a.1, ((), ()))))
theorem ok__law_some (F : Fun K "_law_some" "_law_some" (topS 25) f fd) (G__law_roll : GD P w K mg base "_law_roll" 2 spRoll) : FnOk P w K mg base CX0 3 f fd ["_law_dice_here", "_law_items"] (spOfD (aCons (rLs rStr) aNil) (rLs rStr) m__law_some) := by
  refine F.ok sc__law_some (fun vs H Q E h => spOfD_len h) (fun cdv A outer s H vs Q E hr h => ⟨_, (pss_one (ps_ret (pe_lc (own := [("_law_item", 2)]) (by rfl) sc__law_some.nd  (pi_list (pv 1)) (blkOk_by (own := [("_law_item", 2)]) (N := ["_law_dice_here", "_law_items", "_law_item"]) (sc := defScope (topS 25)) (by decide +kernel)) (fun _ _ _ _ _ => (pg_name (i := 2) sc__law_some.nd rfl (by first | exact Or.inl rfl | exact Or.inr rfl))) (fun _ _ _ _ _ => (pts_one (pt_cmpR op_eq (pe_c1 G__law_roll (hr.mono (by decide)) (pa_cons (pv 0) (pa_cons pe_int pa_nil))) pe_int (nomark _)))) (fun _ _ _ _ _ => (pv 2))))), ?_⟩)
  refine fn_bodyD (X := E) (S := (aCons (rLs rStr) aNil)) (E' := eNil) (R := (rLs rStr)) (st_dice (st_par (st_un st_nil))) rfl (s_ret (SN.se (n_lc (i_ls (e_var gt1)) (gw_name pu2) (t_of (e_op (o_eq sc_int) (e_roll get0 e_int) e_int)) (e_var gt2)))) ?_
  exact h
theorem sc__law_nth : FnScope ["_law_index", "_law_letters"] ["_law_index"] (defScope (topS 26)) := ⟨rfl, rfl, rfl, by decide +kernel, rfl, by decide +kernel, by decide +kernel⟩
noncomputable def b__law_nth (ρ : (Int × (Unit × Unit))) : M (Ct Unit Unit Str) := (M.thn (M.bind (M.ret ("abcdefghijklmnopqrstuvwxyz" : Str)) fun x25 => M.ret (.nx (ρ.1, x25, ρ.2.2))) fun ρ => (M.bind (M.bind (M.bind (M.ret ρ.1) fun x26 => M.bind (M.ret (26 : Int)) fun x27 => M.ret (decide (x26 < x27))) fun x45 => M.ifb x45 (M.bind (M.ret ρ.2.1) fun x28 => M.bind (M.ret ρ.1) fun x29 => M.need (x28.length ≤ sizeLine) (M.bind (M.the (atI x28.cps.toList x29)) fun (c : Nat) => M.ret (⟨#[c]⟩ : Str))) (M.bind (M.bind (M.ret ρ.2.1) fun x34 => M.bind (M.bind (M.bind (M.ret ρ.1) fun x30 => M.bind (M.ret (26 : Int)) fun x31 => M.need (CDvz x30 x31) (M.ret (Int.fdiv x30 x31))) fun x32 => M.bind (M.ret (1 : Int)) fun x33 => M.ret (x32 - x33)) fun x35 => M.need (x34.length ≤ sizeLine) (M.bind (M.the (atI x34.cps.toList x35)) fun (c : Nat) => M.ret (⟨#[c]⟩ : Str))) fun x43 => M.bind (M.bind (M.ret ρ.2.1) fun x41 => M.bind (M.bind (M.bind (M.bind (M.ret ρ.1) fun x36 => M.bind (M.ret ()) fun x37 => M.ret (x36, x37)) fun r38 => M.ret r38.1) fun x39 => M.bind (M.ret (26 : Int)) fun x40 => M.need (x40 ≠ 0) (M.ret (Int.fmod x39 x40))) fun x42 => M.need (x41.length ≤ sizeLine) (M.bind (M.the (atI x41.cps.toList x42)) fun (c : Nat) => M.ret (⟨#[c]⟩ : Str))) fun x44 => M.need (Str.length x43 + Str.length x44 ≤ sizeLine) (M.ret (x43 ++ x44)))) fun x46 => M.ret (.rt x46)))
noncomputable def m__law_nth (a : (Int × Unit)) : M Str := M.fin (b__law_nth (a.1, ((), ())))
theorem ok__law_nth (F : Fun K "_law_nth" "_law_nth" (topS 26) f fd) (fr : Free mg) : FnOk P w K mg base CX0 2 f fd ["_law_index"] (spOf (aCons rInt aNil) rStr m__law_nth) := by
  refine F.ok sc__law_nth (fun vs H Q E h => spOf_len h) (fun cdv A outer s H vs Q E hr h => ⟨_, (pss_cons (ps_set (i := 1) sc__law_nth.nd rfl (by first | exact Or.inl rfl | exact Or.inr rfl) pe_str)
  (pss_one (ps_ret (pe_ifExp (pt_cmpR op_lt (pv 0) pe_int (nomark _)) (pe_ix (ix_str : IxR _ rIxS) (pv 1) (pv 0) (fun _ _ => rfl)) (pe_op op_add_str (pe_ix (ix_str : IxR _ rIxS) (pv 1) (pe_op op_sub (pe_op op_fdivZ (pv 0) pe_int) pe_int) (fun _ _ => rfl)) (pe_ix (ix_str : IxR _ rIxS) (pv 1) (pe_op op_modN (pe_callTy call_int1 (by rfl) fr.b_int (by decide +kernel) (pa_cons (pv 0) pa_nil)) pe_int) (fun _ _ => rfl))))))), ?_⟩)
  refine fn_body (X := E) (S := (aCons rInt aNil)) (E' := eNil) (R := rStr) (st_par (st_un st_nil)) rfl (s_seq (s_asg e_str (g_name pu1))
  (s_ret (e_if (t_of (e_op (o_ib fun _ _ => rfl) (e_var get0) e_int)) (e_op o_ixS (e_var gt1) (e_var get0)) (e_op o_addS (e_op o_ixS (e_var gt1) (e_op (o_ii fun _ _ => rfl) (e_op (o_iiC fun _ _ => rfl) (e_var get0) e_int) e_int)) (e_op o_ixS (e_var gt1) (e_op (o_iiC fun _ _ => rfl) (e_ca c_intI (a_cons (e_var get0) a_nil)) e_int)))))) ?_
  exact h
theorem sc__law_error : FnScope ["_law_call", "e"] ["_law_call"] (defScope (topS 27)) := ⟨rfl, rfl, rfl, by decide +kernel, rfl, by decide +kernel, by decide +kernel⟩
noncomputable def b__law_error (th : M Unit) (ρ : (Unit × Unit)) : M (Ct Unit Unit Str) := (fun ρ => (M.thn (M.tryM (M.bind (M.still ρ.1) fun x47 => M.ret (.nx ρ)) (fun e => M.byE [("InvalidCount" : Str)] [("InvalidOperation" : Str)] (M.thn ((fun (ρ  : ((M Unit) × (Er × Unit))) => (M.bind (M.bind (M.ret ("count " : Str)) fun x51 => M.bind (M.bind (M.bind (M.need (ρ.2.1.cls = ("InvalidCount" : Str)) (M.ret ρ.2.1.val)) fun x48 => M.bind (M.ret ()) fun x49 => M.ret (x48, x49)) fun r50 => M.need ((r50.1.showable = true ∧ r50.1.hasDict = false ∧ r50.1.shown.length ≤ sizeLine ∧ r50.1.depth ≤ 64) ∨ r50.1 = PyData.dict []) (M.ret r50.1.shown)) fun x52 => M.need (Str.length x51 + Str.length x52 ≤ sizeLine) (M.ret (x51 ++ x52))) fun x53 => M.ret (.rt x53))) (ρ.1, e, ρ.2.2)) fun (ρ  : ((M Unit) × (Er × Unit))) => M.ret (.nx (ρ.1, (), ρ.2.2))) (fun e => M.byE [("InvalidOperation" : Str)] [] (M.bind (M.ret ("operation" : Str)) fun x54 => M.ret (.rt x54)) (fun _ => M.none) e) e)) fun ρ => (M.bind (M.ret ("fine" : Str)) fun x55 => M.ret (.rt x55)))) (th, ρ)
noncomputable def m__law_error (th : M Unit) : M Str := M.fin (b__law_error th ((), ()))
theorem gv__law_error {A : Around} {stack : List Env} {q1 : Str} {A_InvalidCount A_InvalidOperation : Addr} (Y_InvalidCount : GErr P K mg "InvalidCount" "value" A_InvalidCount) (fr : Free mg) (E_InvalidCount_InvalidCount : PySem.W.exmOne K (.ref A_InvalidCount) (.ref A_InvalidCount) = some true) (X_InvalidOperation : GX K mg "InvalidOperation" A_InvalidOperation) (E_InvalidOperation_InvalidCount : PySem.W.exmOne K (.ref A_InvalidOperation) (.ref A_InvalidCount) = some false) (E_InvalidOperation_InvalidOperation : PySem.W.exmOne K (.ref A_InvalidOperation) (.ref A_InvalidOperation) = some true) (hgd : A.guards = some []) : ∀ g cdv, Gives P w K mg base A stack ["_law_call", "e"] "_law_error" (defScope (topS 27)) g cdv (defBody (topS 27)) "_law_call" q1 (TTw K mg flE q1 rStr m__law_error) := by
  intro g cdv f1 c1 s H Q tl1 act hr hcode ht
  refine ⟨_, (pss_cons (ps_try_mix rfl rfl takes0 (fun W pn xe tk _ => (pss_one (ps_expr (act W pn xe _ _ tk)))) (HdsM.as_ (i := 1) sc__law_error.nd rfl rfl ⟨rfl, by decide, .inl Y_InvalidCount.gl⟩ (fun a oe cls d pn hz hf => (pss_one (ps_ret (pe_op op_add_str pe_str (pe_callB (call_reprE (have h := hgd; h) (have h := hu100 hr; h) : CallR _ (.builtin "repr") (rReprE K)) (by rfl) fr.b_repr (by decide +kernel) (pa_cons (pe_xf Y_InvalidCount.xf Y_InvalidCount.nof hz hf (pv 1)) pa_nil)))))) (HdsM.one ⟨rfl, by decide, .inl X_InvalidOperation.gl⟩ (fun a oe cls d pn _ _ => (pss_one (ps_ret pe_str))) HdsM.nil)))
  (pss_one (ps_ret pe_str))), ?_⟩
  exact fn_bodyL (f := f1) (c' := c1) (q := q1) (tl := tl1) (E' := eNil) (R := rStr) (st_un st_nil) rfl (s_seq (s_tryMix (sb_dropF (set_thunk get0)) (shm_as (E1 := fun a cls d => (eCons (sThk K mg flE f1 c1 q1 tl1) (eCons (sErr K mg flE a cls d) eNil))) (i := 1) (ys := [("InvalidCount" : Str)]) (ns := [("InvalidOperation" : Str)]) (.cons Y_InvalidCount.gl E_InvalidCount_InvalidCount .nil) (.cons X_InvalidOperation.gl E_InvalidOperation_InvalidCount .nil) (fun a cls d => pu1) (fun a cls d => (s_ret (e_op o_addS e_str (e_ca c_reprE (a_cons (e_xf (fl := flE) Y_InvalidCount.gl (by decide +kernel) gt1) a_nil))))) (fun a cls d => pu1) put_nil (shm_one (ys := [("InvalidOperation" : Str)]) (ns := []) (.cons X_InvalidOperation.gl E_InvalidOperation_InvalidOperation .nil) .nil (s_ret e_str) shm_nil)))
  (s_ret e_str)) ht
theorem sc__law_lettered : FnScope ["_law_value", "_law_sign"] ["_law_value"] (defScope (topS 28)) := ⟨rfl, rfl, rfl, by decide +kernel, rfl, by decide +kernel, by decide +kernel⟩
noncomputable def b__law_lettered (ρ : (Str × (Unit × Unit))) : M (Ct Unit Unit Bool) := (M.thn (M.bind (M.bind (M.bind (M.bind (M.bind (M.ret ρ.1) fun x58 => M.bind (M.bind (M.ret ()) fun x56 => M.bind (M.ret ()) fun x57 => M.ret (x56, x57)) fun x59 => M.ret (x58, x59)) fun r60 => M.ret true) fun x61 => M.ret (!x61)) fun x73 => M.ifb x73 (M.ret true) (M.bind (M.bind (M.ret (1 : Int)) fun x68 => M.bind (M.bind (M.bind (M.ret ρ.1) fun x62 => M.bind (M.ret ()) fun x63 => M.ret (x62, x63)) fun r64 => M.need (Str.length r64.1 ≤ sizeLine) (M.ret (Str.length r64.1 : Int))) fun x69 => M.bind (M.ret (decide (x68 ≤ x69))) fun (k70 : Bool) => M.ifb k70 (M.bind (M.ret (8 : Int)) fun x71 => M.ret (decide (x69 ≤ x71))) (M.ret false)) fun x72 => M.ret (!x72))) fun x75 => M.ifb x75 (M.bind (M.ret false) fun x74 => M.ret (.rt x74)) (M.ret (.nx ρ))) fun ρ => (M.bind (M.bind (M.bind (M.bind (M.ret ρ.1) fun x76 => M.ret (PF.signs x76)) fun l80 => M.need (l80.length ≤ 1000000) (M.lcM l80 fun (a81 : Str) => M.bind ((fun ρ => (M.bind (M.ret ρ.2.1) fun x77 => M.bind (M.ret ("abcdefghijklmnopqrstuvwxyz" : Str)) fun x78 => M.ret (!(inStr x77 x78)))) (ρ.1, a81, ρ.2.2)) fun (b82 : Bool) => M.ifb b82 (M.bind ((fun ρ => (M.ret ρ.2.1)) (ρ.1, a81, ρ.2.2)) fun (y83 : Str) => M.ret (some y83)) (M.ret none))) fun x84 => M.bind (M.bind (M.ret ()) fun _ => M.ret ([] : (List Str))) fun x85 => M.need (((fun (xs : (List Str)) => PyData.list (xs.map PyData.str)) x84).canLay0 = true ∧ ((fun (xs : (List Str)) => PyData.list (xs.map PyData.str)) x85).canLay0 = true) (M.ret (PyData.eqv ((fun (xs : (List Str)) => PyData.list (xs.map PyData.str)) x84) ((fun (xs : (List Str)) => PyData.list (xs.map PyData.str)) x85)))) fun x86 => M.ret (.rt x86)))
noncomputable def m__law_lettered (a : (Str × Unit)) : M Bool := M.fin (b__law_lettered (a.1, ((), ())))
theorem ok__law_lettered (F : Fun K "_law_lettered" "_law_lettered" (topS 28) f fd) (fr : Free mg) : FnOk P w K mg base CX0 2 f fd ["_law_value"] (spOf (aCons rStr aNil) rBl m__law_lettered) := by
  refine F.ok sc__law_lettered (fun vs H Q E h => spOf_len h) (fun cdv A outer s H vs Q E hr h => ⟨_, (pss_cons (ps_if (PW.pt (pw_or (pt_not (pt_val (pe_callB call_isiU (by rfl) fr.b_isinstance (by decide +kernel) (pa_cons (pv 0) (pa_cons (pe_bltn (v := .ty "str") (by rfl) fr.b_str (by decide +kernel) rfl) pa_nil))))) (pw_or1 (pt_not (pt_chain op_le op_le pe_int (pe_callB call_len_str (by rfl) fr.b_len (by decide +kernel) (pa_cons (pv 0) pa_nil)) pe_int))))) (pss_one (ps_ret pe_bl)) pss_nil)
  (pss_one (ps_ret (pe_cmpR (op_eqD (have h := hu64 hr; h) : OpR _ _ (rEqD K)) (pe_lc (own := [("_law_sign", 1)]) (by rfl) sc__law_lettered.nd  (pi_str (pv 0)) (blkOk_by (own := [("_law_sign", 1)]) (N := ["_law_value", "_law_sign"]) (sc := defScope (topS 28)) (by decide +kernel)) (fun _ _ _ _ _ => (pg_name (i := 1) sc__law_lettered.nd rfl (by first | exact Or.inl rfl | exact Or.inr rfl))) (fun _ _ _ _ _ => (pts_one (pt_cmpR (op_niS : OpR _ _ rNiS) (pv 1) pe_str (by rfl)))) (fun _ _ _ _ _ => (pv 1))) (pe_lst pa_nil) (nomark _))))), ?_⟩)
  refine fn_body (X := E) (S := (aCons rStr aNil)) (E' := eNil) (R := rBl) (st_par (st_un st_nil)) rfl (s_seq (s_if (t_or (t_not (t_b (e_ca (c_isiT (b := true) tr_str (kit_ty (by decide +kernel))) (a_cons (e_var get0) (a_cons e_tyV a_nil))))) (t_not (t_of (e_chain (o_ib fun _ _ => rfl) (o_ib fun _ _ => rfl) e_int (e_ca c_lenS (a_cons (e_var get0) a_nil)) e_int)))) (s_ret e_bl) s_nil)
  (s_ret (e_op (o_eqD (da := (fun (xs : (List Str)) => PyData.list (xs.map PyData.str))) (db := (fun (xs : (List Str)) => PyData.list (xs.map PyData.str))) (dp_ls dp_str) (dp_ls dp_str)) (SN.se (n_lc (i_str (e_var get0)) (gw_name pu1) (t_of (e_op o_niS (e_var gt1) e_str)) (e_var gt1))) (SN.se (n_lst (Ra := rStr) hom_nil a_nil (le_n 0)))))) ?_
  exact h
theorem sc__law_any_word : FnScope ["_law_dice_here", "_law_signs", "_law_turn"] ["_law_dice_here"] (defScope (topS 29)) := ⟨rfl, rfl, rfl, by decide +kernel, rfl, by decide +kernel, by decide +kernel⟩
noncomputable def b__law_any_word (ρ : (Unit × (Unit × (Unit × Unit)))) : M (Ct Unit Unit Str) := (M.thn (M.bind (M.bind (M.bind (M.bind (M.ret (3 : Int)) fun x87 => M.roll x87) fun x88 => M.bind (M.ret (0 : Int)) fun x89 => M.ret (decide (x89 < x88))) fun x90 => M.ifb x90 (M.ret ("abcxyzpiecround" : Str)) (M.ret ("abzAZ019 _-" : Str))) fun x91 => M.ret (.nx (ρ.1, x91, ρ.2.2))) fun ρ => (M.bind (M.bind (M.ret ("" : Str)) fun x105 => M.bind (M.bind (M.bind (M.bind (M.ret (11 : Int)) fun x92 => M.roll x92) fun x93 => M.need (-(2 ^ 62) ≤ x93 ∧ x93 < 2 ^ 62) (M.ret (rng 0 x93))) fun l101 => M.need (l101.length ≤ 1000000) (M.lcM l101 fun (a102 : Int) => M.bind ((fun ρ => (M.ret true)) (ρ.1, ρ.2.1, a102, ρ.2.2.2)) fun (b103 : Bool) => M.ifb b103 (M.bind ((fun ρ => (M.bind (M.ret ρ.2.1) fun x98 => M.bind (M.bind (M.bind (M.bind (M.ret ρ.2.1) fun x94 => M.bind (M.ret ()) fun x95 => M.ret (x94, x95)) fun r96 => M.need (Str.length r96.1 ≤ sizeLine) (M.ret (Str.length r96.1 : Int))) fun x97 => M.roll x97) fun x99 => M.need (x98.length ≤ sizeLine) (M.bind (M.the (atI x98.cps.toList x99)) fun (c : Nat) => M.ret (⟨#[c]⟩ : Str)))) (ρ.1, ρ.2.1, a102, ρ.2.2.2)) fun (y104 : Str) => M.ret (some y104)) (M.ret none))) fun x106 => M.need ((x106.map (·.length)).sum + x106.length * Str.length x105 ≤ 16777216) (M.ret (Txt.join x105 x106))) fun x107 => M.ret (.rt x107)))
noncomputable def m__law_any_word (a : Unit) : M Str := M.fin (b__law_any_word ((), ((), ((), ()))))
theorem ok__law_any_word (F : Fun K "_law_any_word" "_law_any_word" (topS 29) f fd) (G__law_roll : GD P w K mg base "_law_roll" 2 spRoll) (fr : Free mg) : FnOk P w K mg base CX0 3 f fd ["_law_dice_here"] (spOfD aNil rStr m__law_any_word) := by
  refine F.ok sc__law_any_word (fun vs H Q E h => spOfD_len h) (fun cdv A outer s H vs Q E hr h => ⟨_, (pss_cons (ps_set (i := 1) sc__law_any_word.nd rfl (by first | exact Or.inl rfl | exact Or.inr rfl) (pe_ifExp (pt_cmpR op_gt (pe_c1 G__law_roll (hr.mono (by decide)) (pa_cons (pv 0) (pa_cons pe_int pa_nil))) pe_int (nomark _)) pe_str pe_str))
  (pss_one (ps_ret (pe_join pe_str (pe_lc (own := [("_law_turn", 2)]) (by rfl) sc__law_any_word.nd  (pi_range1 (by rfl) fr.b_range (pa_cons (pe_c1 G__law_roll (hr.mono (by decide)) (pa_cons (pv 0) (pa_cons pe_int pa_nil))) pa_nil)) (blkOk_by (own := [("_law_turn", 2)]) (N := ["_law_dice_here", "_law_signs", "_law_turn"]) (sc := defScope (topS 29)) (by decide +kernel)) (fun _ _ _ _ _ => (pg_name (i := 2) sc__law_any_word.nd rfl (by first | exact Or.inl rfl | exact Or.inr rfl))) (fun _ _ _ _ _ => pts_nil) (fun _ _ _ _ _ => (pe_ix (ix_str : IxR _ rIxS) (pv 1) (pe_c1 G__law_roll (hr.mono (by decide)) (pa_cons (pv 0) (pa_cons (pe_callB call_len_str (by rfl) fr.b_len (by decide +kernel) (pa_cons (pv 1) pa_nil)) pa_nil))) (fun _ _ => rfl)))))))), ?_⟩)
  refine fn_bodyD (X := E) (S := aNil) (E' := eNil) (R := rStr) (st_dice (st_un (st_un st_nil))) rfl (s_seq (s_asg (e_if (t_of (e_op (o_ib fun _ _ => rfl) (e_roll get0 e_int) e_int)) e_str e_str) (g_name pu1))
  (s_ret (e_join jn_ls e_str (SN.se (n_lc (i_rng1 (e_roll get0 e_int)) (gw_name pu2) t_yes (e_op o_ixS (e_var gt1) (e_roll get0 (e_ca c_lenS (a_cons (e_var gt1) a_nil))))))))) ?_
  exact h
theorem sc__law_any_integer : FnScope ["_law_dice_here", "_law_near", "_law_number"] ["_law_dice_here"] (defScope (topS 30)) := ⟨rfl, rfl, rfl, by decide +kernel, rfl, by decide +kernel, by decide +kernel⟩
noncomputable def b__law_any_integer (ρ : (Unit × (Unit × (Unit × Unit)))) : M (Ct Unit Unit Int) := (M.thn (M.bind (M.bind (M.bind (M.bind (M.ret (0 : Int)) fun x136 => M.bind (M.bind (M.ret (1 : Int)) fun x134 => M.bind (M.bind (M.ret (9 : Int)) fun x132 => M.bind (M.bind (M.bind (M.ret (10 : Int)) fun x108 => M.bind (M.ret (5 : Int)) fun x109 => M.need (CPow x108 x109) (M.ret (x108 ^ Int.toNat x109))) fun x130 => M.bind (M.bind (M.bind (M.ret (10 : Int)) fun x110 => M.bind (M.ret (59 : Int)) fun x111 => M.need (CPow x110 x111) (M.ret (x110 ^ Int.toNat x111))) fun x128 => M.bind (M.bind (M.bind (M.ret (10 : Int)) fun x112 => M.bind (M.ret (60 : Int)) fun x113 => M.need (CPow x112 x113) (M.ret (x112 ^ Int.toNat x113))) fun x126 => M.bind (M.bind (M.bind (M.ret (10 : Int)) fun x114 => M.bind (M.ret (60 : Int)) fun x115 => M.need (CPow x114 x115) (M.ret (x114 ^ Int.toNat x115))) fun x124 => M.bind (M.bind (M.bind (M.bind (M.ret (10 : Int)) fun x116 => M.bind (M.ret (50 : Int)) fun x117 => M.need (CPow x116 x117) (M.ret (x116 ^ Int.toNat x117))) fun x120 => M.bind (M.bind (M.ret (10 : Int)) fun x118 => M.bind (M.ret (30 : Int)) fun x119 => M.need (CPow x118 x119) (M.ret (x118 ^ Int.toNat x119))) fun x121 => M.need (CMulX x120 x121) (M.ret (x120 * x121))) fun x122 => M.bind (M.ret ()) fun x123 => M.ret (x122, x123)) fun x125 => M.ret (x124, x125)) fun x127 => M.ret (x126, x127)) fun x129 => M.ret (x128, x129)) fun x131 => M.ret (x130, x131)) fun x133 => M.ret (x132, x133)) fun x135 => M.ret (x134, x135)) fun x137 => M.ret (x136, x137)) fun r138 => M.ret [r138.1, r138.2.1, r138.2.2.1, r138.2.2.2.1, r138.2.2.2.2.1, r138.2.2.2.2.2.1, r138.2.2.2.2.2.2.1, r138.2.2.2.2.2.2.2.1]) fun x139 => M.pick x139) fun x140 => M.ret (.nx (ρ.1, x140, ρ.2.2))) fun ρ => (M.thn (M.bind (M.bind (M.bind (M.ret ρ.2.1) fun x142 => M.bind (M.bind (M.ret (5 : Int)) fun x141 => M.roll x141) fun x143 => M.ret (x142 + x143)) fun x144 => M.bind (M.ret (2 : Int)) fun x145 => M.ret (x144 - x145)) fun x146 => M.ret (.nx (ρ.1, ρ.2.1, x146, ρ.2.2.2))) fun ρ => (M.bind (M.bind (M.bind (M.bind (M.ret (3 : Int)) fun x147 => M.roll x147) fun x148 => M.bind (M.ret (0 : Int)) fun x149 => M.ret (decide (x148 = x149))) fun x151 => M.ifb x151 (M.bind (M.ret ρ.2.2.1) fun x150 => M.ret (-x150)) (M.ret ρ.2.2.1)) fun x152 => M.ret (.rt x152))))
noncomputable def m__law_any_integer (a : Unit) : M Int := M.fin (b__law_any_integer ((), ((), ((), ()))))
theorem ok__law_any_integer (F : Fun K "_law_any_integer" "_law_any_integer" (topS 30) f fd) (G__law_pick : GD P w K mg base "_law_pick" 3 spPick) (G__law_roll : GD P w K mg base "_law_roll" 2 spRoll) : FnOk P w K mg base CX0 4 f fd ["_law_dice_here"] (spOfD aNil rInt m__law_any_integer) := by
  refine F.ok sc__law_any_integer (fun vs H Q E h => spOfD_len h) (fun cdv A outer s H vs Q E hr h => ⟨_, (pss_cons (ps_set (i := 1) sc__law_any_integer.nd rfl (by first | exact Or.inl rfl | exact Or.inr rfl) (pe_c1 G__law_pick (hr.mono (by decide)) (pa_cons (pv 0) (pa_cons (pe_lst (pa_cons pe_int (pa_cons pe_int (pa_cons pe_int (pa_cons (pe_op op_pow pe_int pe_int) (pa_cons (pe_op op_pow pe_int pe_int) (pa_cons (pe_op op_pow pe_int pe_int) (pa_cons (pe_op op_pow pe_int pe_int) (pa_cons (pe_op op_mulX (pe_op op_pow pe_int pe_int) (pe_op op_pow pe_int pe_int)) pa_nil))))))))) pa_nil))))
  (pss_cons (ps_set (i := 2) sc__law_any_integer.nd rfl (by first | exact Or.inl rfl | exact Or.inr rfl) (pe_op op_sub (pe_op op_add (pv 1) (pe_c1 G__law_roll (hr.mono (by decide)) (pa_cons (pv 0) (pa_cons pe_int pa_nil)))) pe_int))
  (pss_one (ps_ret (pe_ifExp (pt_cmpR op_eq (pe_c1 G__law_roll (hr.mono (by decide)) (pa_cons (pv 0) (pa_cons pe_int pa_nil))) pe_int (nomark _)) (pe_un un_neg (pv 2)) (pv 2)))))), ?_⟩)
  refine fn_bodyD (X := E) (S := aNil) (E' := eNil) (R := rInt) (st_dice (st_un (st_un st_nil))) rfl (s_seq (s_asg (e_pick get0 (SN.se (n_lst (hom_cons (hom_cons (hom_cons (hom_cons (hom_cons (hom_cons (hom_cons (hom_cons hom_nil)))))))) (a_cons e_int (a_cons e_int (a_cons e_int (a_cons (e_op (o_iiC fun _ _ => rfl) e_int e_int) (a_cons (e_op (o_iiC fun _ _ => rfl) e_int e_int) (a_cons (e_op (o_iiC fun _ _ => rfl) e_int e_int) (a_cons (e_op (o_iiC fun _ _ => rfl) e_int e_int) (a_cons (e_op (o_iiC fun _ _ => rfl) (e_op (o_iiC fun _ _ => rfl) e_int e_int) (e_op (o_iiC fun _ _ => rfl) e_int e_int)) a_nil)))))))) (le_n 8)))) (g_name pu1))
  (s_seq (s_asg (e_op (o_ii fun _ _ => rfl) (e_op (o_ii fun _ _ => rfl) (e_var gt1) (e_roll get0 e_int)) e_int) (g_name pu2))
  (s_ret (e_if (t_of (e_op (o_eq sc_int) (e_roll get0 e_int) e_int)) (e_un (u_ii fun _ => rfl) (e_var gt2)) (e_var gt2))))) ?_
  exact h
end
end PF2
namespace PF
open PySem PySem.Spec PyProof.Rows L2 SlX
end PF
set_option maxHeartbeats 1000000
namespace PF
open PySem PySem.Spec PyProof.Rows L2 SlX
section
variable {κ β : Type} [DecidableEq κ]
inductive Gh (P : Addr → List β → Prop) : List (κ × Addr) → List (κ × List β) → Prop
  | nil : Gh P [] []
  | cons {k : κ} {a : Addr} {xs : List β} {as : List (κ × Addr)} {g : List (κ × List β)} (h : P a xs) (t : Gh P as g) : Gh P ((k, a) :: as) ((k, xs) :: g)
variable {P P' : Addr → List β → Prop} {as : List (κ × Addr)} {g : List (κ × List β)}
theorem Gh.imp (h : Gh P as g) (f : ∀ a xs, a ∈ as.map (·.2) → P a xs → P' a xs) : Gh P' as g := by
  induction h with
  | nil => exact .nil
  | cons h _ ih => exact .cons (f _ _ (List.mem_cons_self ..) h) (ih fun a xs m => f a xs (List.mem_cons_of_mem _ m))
theorem Gh.mem (h : Gh P as g) {a : Addr} (m : a ∈ as.map (·.2)) : ∃ xs, P a xs := by
  induction h with
  | nil => cases m
  | cons h _ ih =>
    rcases List.mem_cons.mp m with e | m
    · rw [e]; exact ⟨_, h⟩
    · exact ih m
theorem Gh.snoc (h : Gh P as g) {k : κ} {a : Addr} {xs : List β} (p : P a xs) : Gh P (as ++ [(k, a)]) (g ++ [(k, xs)]) := by
  induction h with
  | nil => exact .cons p .nil
  | cons h _ ih => exact .cons h ih
theorem Gh.any (h : Gh P as g) (k : κ) : (as.any fun p => decide (p.1 = k)) = (g.any fun p => decide (p.1 = k)) := by
  induction h with
  | nil => rfl
  | cons _ _ ih => rw [List.any_cons, List.any_cons, ih]
theorem Gh.repl (h : Gh P as g) {k : κ} {a : Addr} {xs : List β} (p : P a xs) : Gh P (as.map fun q => if q.1 = k then (q.1, a) else q) (g.map fun q => if q.1 = k then (q.1, xs) else q) := by
  induction h with
  | nil => exact .nil
  | @cons k2 b ys _ _ h _ ih =>
    rw [List.map_cons, List.map_cons]
    by_cases c : k2 = k
    · rw [if_pos c, if_pos c]; exact .cons p ih
    · rw [if_neg c, if_neg c]; exact .cons h ih
theorem Gh.dput (h : Gh P as g) {k : κ} {a : Addr} {xs : List β} (p : P a xs) : Gh P (PF.dput as k a) (PF.dput g k xs) := by
  unfold PF.dput
  rw [h.any k]
  split
  · exact h.repl p
  · exact h.snoc p
theorem Gh.get (h : Gh P as g) {k : κ} {xs : List β} (e : dget g k = some xs) : ∃ a, dget as k = some a ∧ P a xs ∧ a ∈ as.map (·.2) := by
  induction h with
  | nil => cases e
  | @cons k2 b ys as g h _ ih =>
    unfold PF.dget at e ⊢
    rw [List.find?_cons] at e ⊢
    by_cases c : k2 = k
    · simp only [c, decide_true] at e ⊢
      cases e
      exact ⟨b, rfl, h, List.mem_cons_self ..⟩
    · simp only [c, decide_false] at e ⊢
      obtain ⟨a, h1, h2, h3⟩ := ih e
      exact ⟨a, h1, h2, List.mem_cons_of_mem _ h3⟩
theorem Gh.upd (h : Gh P as g) (nk : (as.map (·.1)).Nodup) (na : (as.map (·.2)).Nodup) {k : κ} {a : Addr} {xs ys : List β} (e : dget g k = some xs) (ea : dget as k = some a) (p : P' a ys) (q : ∀ b zs, b ≠ a → b ∈ as.map (·.2) → P b zs → P' b zs) : Gh P' as (PF.dput g k ys) := by
  have any : (g.any fun p => decide (p.1 = k)) = true := by
    unfold PF.dget at e
    obtain ⟨r, hr, _⟩ := Option.map_eq_some_iff.mp e
    exact List.any_eq_true.mpr ⟨r, List.mem_of_find?_eq_some hr, by have z := List.find?_some hr; exact z⟩
  unfold PF.dput
  rw [if_pos any]
  clear any e
  induction h with
  | nil => cases ea
  | @cons k2 b zs as g h t ih =>
    obtain ⟨a1, a2⟩ := List.nodup_cons.mp nk
    obtain ⟨b1, b2⟩ := List.nodup_cons.mp na
    rw [List.map_cons]
    have fk : as.map (·.1) = g.map (·.1) := by
      clear ih nk na a1 a2 b1 b2 ea q
      induction t with
      | nil => rfl
      | cons _ _ ih => rw [List.map_cons, List.map_cons, ih]
    by_cases c : k2 = k
    · rw [if_pos c]
      have e2 : some b = some a := by
        rw [← ea]; unfold PF.dget; rw [List.find?_cons]; simp [c]
      cases e2
      have id : (g.map fun q => if q.1 = k then (q.1, ys) else q) = g := by
        conv => rhs; rw [← List.map_id g]
        refine List.map_congr_left fun r hr => ?_
        rw [if_neg]; rfl
        intro z
        have : r.1 ∈ g.map (·.1) := List.mem_map_of_mem (f := (·.1)) hr
        rw [← fk, z, ← c] at this
        exact a1 this
      rw [id]
      exact .cons p (t.imp fun b' zs m hp => q b' zs (fun z => b1 (by rw [← z]; exact m)) (List.mem_cons_of_mem _ m) hp)
    · rw [if_neg c]
      have ea' : PF.dget as k = some a := by
        rw [← ea]; unfold PF.dget; rw [List.find?_cons]; simp [c]
      have am : a ∈ as.map (·.2) := by
        unfold PF.dget at ea'
        obtain ⟨r, hr, er⟩ := Option.map_eq_some_iff.mp ea'
        rw [← er]
        exact List.mem_map_of_mem (f := (·.2)) (List.mem_of_find?_eq_some hr)
      refine .cons (q b zs (fun z => b1 (by rw [z]; exact am)) (List.mem_cons_self ..) h) (ih a2 b2 ea' fun b' zs n m hp => q b' zs n (List.mem_cons_of_mem _ m) hp)
end
section
variable {κ β : Type} [DecidableEq κ]
def GhP (Rb : Rp β) (p : Option Addr) (H0 F H : Hp) (a : Addr) (xs : List β) : Prop := ∃ vs, H a = some (.lst vs) ∧ All2 (Rb.r F) vs xs ∧ F a = none ∧ H0 a = none ∧ p ≠ some a
theorem GhP.step {Rb : Rp β} {p : Option Addr} {H0 F H F' H' : Hp} {a : Addr} {xs : List β} (x : ExtX p F H F' H') (h : GhP Rb p H0 F H a xs) : GhP Rb p H0 F' H' a xs := by
  obtain ⟨vs, h1, t, n1, n2, n3⟩ := h
  exact ⟨vs, x.hp a _ n3 h1, t.imp fun _ _ g => Rb.st x.fz g, (x.old a (some_ne h1)).trans n1, n2, n3⟩
structure Ghs {Γ Γ' : Type} (Rb : Rp β) (as : List (κ × Addr)) (E : EV Γ) (G : EV Γ') (f : Γ → List (κ × List β) → Γ') (st : Γ' → Γ) (gt : Γ' → List (κ × List β)) : Prop where
  mk' : ∀ {p : Option Addr} {H0 F H : Hp} {σ : L2.St} {ρ : Γ} {g : List (κ × List β)}, E.r p H0 F H σ ρ → Gh (GhP Rb p H0 F H) as g → G.r p H0 F H σ (f ρ g)
  st : ∀ {p : Option Addr} {H0 F H : Hp} {σ : L2.St} {ρ : Γ'}, G.r p H0 F H σ ρ → E.r p H0 F H σ (st ρ)
  gt : ∀ {p : Option Addr} {H0 F H : Hp} {σ : L2.St} {ρ : Γ'}, G.r p H0 F H σ ρ → Gh (GhP Rb p H0 F H) as (gt ρ)
  ow : ∀ {p : Option Addr} {H0 F H : Hp} {σ : L2.St} {ρ : Γ}, E.r p H0 F H σ ρ → G.owns σ = E.owns σ ++ as.map (·.2)
end
section
variable {Γ Γ' Γ'' Γ1 Δ α β γ : Type} {μ : Md} {E : EV Γ} {E' : EV Γ'} {El : EV Δ} {Ra : Rp α} {Rb : Rp β} {R : Rp γ} {K : PySem.W.Frag}
theorem fg_idG {Γ : Type} {E : EV Γ} : Fg E E id := ⟨id, fun _ => List.Sublist.refl _⟩
end
end PF
set_option maxHeartbeats 4000000
namespace PF2
open PF PySem PySem.Spec PyProof.Rows L2 SlX
section
variable {P : Program} {w : World} {K : PySem.W.Frag} {mg : Str → Option Value} {base : Heap} {f CO CN CF CE : Addr} {fd : FuncData}
theorem sc__law_judged : FnScope ["_law_dice_here", "_law_number", "_law_word", "_law_is_short", "_law_told", "_law_words", "_law_turn", "_law_one", "_law_odd"] ["_law_dice_here"] (defScope (topS 31)) := ⟨rfl, rfl, rfl, by decide +kernel, rfl, by decide +kernel, by decide +kernel⟩
noncomputable def b__law_judged (ρ : (Unit × (Unit × (Unit × (Unit × (Unit × (Unit × (Unit × (Unit × (Unit × Unit)))))))))) : M (Ct Unit Unit Bool) := (M.thn (M.bind (M.bind (M.ret ()) fun r1 => m__law_any_integer r1) fun x3 => M.bind (M.bind (M.ret ()) fun r2 => m__law_any_word r2) fun x4 => M.ret (.nx (ρ.1, x3, x4, ρ.2.2.2.1, ρ.2.2.2.2.1, ρ.2.2.2.2.2.1, ρ.2.2.2.2.2.2.1, ρ.2.2.2.2.2.2.2.1, ρ.2.2.2.2.2.2.2.2.1, ρ.2.2.2.2.2.2.2.2.2))) fun ρ => (M.thn (M.bind (M.bind (M.bind (M.bind (M.bind (M.bind (M.bind (M.bind (M.ret ρ.2.1) fun x5 => M.bind (M.ret ()) fun x6 => M.ret (x5, x6)) fun r7 => M.ret (if r7.1 < 0 then -r7.1 else r7.1)) fun x8 => M.bind (M.ret ()) fun x9 => M.ret (x8, x9)) fun r10 => M.need (Nat.log2 (Int.natAbs r10.1) < 1920) (M.ret (toString r10.1))) fun x11 => M.bind (M.ret ()) fun x12 => M.ret (x11, x12)) fun r13 => M.need (Str.length r13.1 ≤ sizeLine) (M.ret (Str.length r13.1 : Int))) fun x14 => M.bind (M.ret (60 : Int)) fun x15 => M.ret (decide (x14 ≤ x15))) fun x16 => M.ret (.nx (ρ.1, ρ.2.1, ρ.2.2.1, x16, ρ.2.2.2.2))) fun ρ => (M.thn (M.bind (M.bind (M.bind (M.bind (M.bind (M.bind (M.ret ρ.2.1) fun x17 => M.ret (PyData.int x17)) fun x18 => M.bind (M.ret ()) fun x19 => M.ret (x18, x19)) fun r20 => M.still (m_is_integer_D r20)) fun x32 => M.bind (M.bind (M.bind (M.bind (M.bind (M.ret ρ.2.1) fun x21 => M.ret (PyData.int x21)) fun x22 => M.bind (M.ret ()) fun x23 => M.ret (x22, x23)) fun r24 => M.still (m_is_count_D r24)) fun x30 => M.bind (M.bind (M.bind (M.bind (M.ret ρ.2.2.1) fun x25 => M.bind (M.ret ()) fun x26 => M.ret (x25, x26)) fun r27 => M.still (m_is_name r27)) fun x28 => M.bind (M.ret ()) fun x29 => M.ret (x28, x29)) fun x31 => M.ret (x30, x31)) fun x33 => M.ret (x32, x33)) fun r34 => M.ret [r34.1, r34.2.1, r34.2.2.1]) fun x35 => M.ret (.nx (ρ.1, ρ.2.1, ρ.2.2.1, ρ.2.2.2.1, x35, ρ.2.2.2.2.2))) fun ρ => (M.thn (M.bind (M.bind (M.bind (M.bind (M.ret ρ.2.2.2.2.1) fun x36 => M.bind (M.ret ()) fun x37 => M.ret (x36, x37)) fun r38 => M.need (((fun (xs : (List Bool)) => PyData.list (xs.map PyData.bool)) r38.1).showable = true ∧ ((fun (xs : (List Bool)) => PyData.list (xs.map PyData.bool)) r38.1).hasDict = false ∧ ((fun (xs : (List Bool)) => PyData.list (xs.map PyData.bool)) r38.1).shown.length ≤ sizeLine ∧ ((fun (xs : (List Bool)) => PyData.list (xs.map PyData.bool)) r38.1).depth ≤ 64) (M.ret ((fun (xs : (List Bool)) => PyData.list (xs.map PyData.bool)) r38.1).shown)) fun x55 => M.bind (M.bind (M.bind (M.bind (M.bind (M.ret ρ.2.2.2.1) fun x49 => M.bind (M.bind (M.bind (M.ret ρ.2.2.2.1) fun x41 => M.ifb x41 (M.bind (M.ret ρ.2.1) fun x39 => M.bind (M.ret (0 : Int)) fun x40 => M.ret (decide (x40 ≤ x39))) (M.ret false)) fun x47 => M.bind (M.bind (M.bind (M.bind (M.ret ρ.2.2.1) fun x42 => M.bind (M.ret ()) fun x43 => M.ret (x42, x43)) fun r44 => M.still (m__law_lettered r44)) fun x45 => M.bind (M.ret ()) fun x46 => M.ret (x45, x46)) fun x48 => M.ret (x47, x48)) fun x50 => M.ret (x49, x50)) fun r51 => M.ret [r51.1, r51.2.1, r51.2.2.1]) fun x52 => M.bind (M.ret ()) fun x53 => M.ret (x52, x53)) fun r54 => M.need (((fun (xs : (List Bool)) => PyData.list (xs.map PyData.bool)) r54.1).showable = true ∧ ((fun (xs : (List Bool)) => PyData.list (xs.map PyData.bool)) r54.1).hasDict = false ∧ ((fun (xs : (List Bool)) => PyData.list (xs.map PyData.bool)) r54.1).shown.length ≤ sizeLine ∧ ((fun (xs : (List Bool)) => PyData.list (xs.map PyData.bool)) r54.1).depth ≤ 64) (M.ret ((fun (xs : (List Bool)) => PyData.list (xs.map PyData.bool)) r54.1).shown)) fun x56 => M.ret (!decide (x55 = x56))) fun x58 => M.ifb x58 (M.bind (M.ret false) fun x57 => M.ret (.rt x57)) (M.ret (.nx ρ))) fun ρ => (M.thn (M.bind (M.bind (M.bind (M.bind (M.bind (M.bind (M.ret (4 : Int)) fun x59 => M.roll x59) fun x60 => M.need (-(2 ^ 62) ≤ x60 ∧ x60 < 2 ^ 62) (M.ret (rng 0 x60))) fun l63 => M.need (l63.length ≤ 1000000) (M.lcM l63 fun (a64 : Int) => M.bind ((fun ρ => (M.ret true)) (ρ.1, ρ.2.1, ρ.2.2.1, ρ.2.2.2.1, ρ.2.2.2.2.1, ρ.2.2.2.2.2.1, a64, ρ.2.2.2.2.2.2.2)) fun (b65 : Bool) => M.ifb b65 (M.bind ((fun ρ => (M.bind (M.ret ()) fun r61 => m__law_any_word r61)) (ρ.1, ρ.2.1, ρ.2.2.1, ρ.2.2.2.1, ρ.2.2.2.2.1, ρ.2.2.2.2.2.1, a64, ρ.2.2.2.2.2.2.2)) fun (y66 : Str) => M.ret (some y66)) (M.ret none))) fun x67 => M.bind (M.ret ()) fun x68 => M.ret (x67, x68)) fun r69 => M.ret r69.1) fun x70 => M.ret (.nx (ρ.1, ρ.2.1, ρ.2.2.1, ρ.2.2.2.1, ρ.2.2.2.2.1, x70, ρ.2.2.2.2.2.2))) fun ρ => (M.thn (M.bind (M.bind (M.bind (M.bind (M.bind (M.bind (M.ret ρ.2.2.2.2.2.1) fun x71 => M.bind (M.ret ()) fun x72 => M.ret (x71, x72)) fun r73 => M.still (m_are_names r73)) fun x74 => M.bind (M.ret ()) fun x75 => M.ret (x74, x75)) fun r76 => M.need ((PyData.bool r76.1).showable = true ∧ (PyData.bool r76.1).hasDict = false ∧ (PyData.bool r76.1).shown.length ≤ sizeLine ∧ (PyData.bool r76.1).depth ≤ 64) (M.ret (PyData.bool r76.1).shown)) fun x91 => M.bind (M.bind (M.bind (M.bind (M.bind (M.ret ρ.2.2.2.2.2.1) fun l82 => M.need (l82.length ≤ 1000000) (M.lcM l82 fun (a83 : Str) => M.bind ((fun ρ => (M.bind (M.bind (M.bind (M.ret ρ.2.2.2.2.2.2.2.1) fun x77 => M.bind (M.ret ()) fun x78 => M.ret (x77, x78)) fun r79 => M.still (m__law_lettered r79)) fun x80 => M.ret (!x80))) (ρ.1, ρ.2.1, ρ.2.2.1, ρ.2.2.2.1, ρ.2.2.2.2.1, ρ.2.2.2.2.2.1, ρ.2.2.2.2.2.2.1, a83, ρ.2.2.2.2.2.2.2.2)) fun (b84 : Bool) => M.ifb b84 (M.bind ((fun ρ => (M.ret ρ.2.2.2.2.2.2.2.1)) (ρ.1, ρ.2.1, ρ.2.2.1, ρ.2.2.2.1, ρ.2.2.2.2.1, ρ.2.2.2.2.2.1, ρ.2.2.2.2.2.2.1, a83, ρ.2.2.2.2.2.2.2.2)) fun (y85 : Str) => M.ret (some y85)) (M.ret none))) fun x86 => M.bind (M.bind (M.ret ()) fun _ => M.ret ([] : (List Str))) fun x87 => M.need (((fun (xs : (List Str)) => PyData.list (xs.map PyData.str)) x86).canLay0 = true ∧ ((fun (xs : (List Str)) => PyData.list (xs.map PyData.str)) x87).canLay0 = true) (M.ret (PyData.eqv ((fun (xs : (List Str)) => PyData.list (xs.map PyData.str)) x86) ((fun (xs : (List Str)) => PyData.list (xs.map PyData.str)) x87)))) fun x88 => M.bind (M.ret ()) fun x89 => M.ret (x88, x89)) fun r90 => M.need ((PyData.bool r90.1).showable = true ∧ (PyData.bool r90.1).hasDict = false ∧ (PyData.bool r90.1).shown.length ≤ sizeLine ∧ (PyData.bool r90.1).depth ≤ 64) (M.ret (PyData.bool r90.1).shown)) fun x92 => M.ret (!decide (x91 = x92))) fun x94 => M.ifb x94 (M.bind (M.ret false) fun x93 => M.ret (.rt x93)) (M.ret (.nx ρ))) fun ρ => (M.thn (M.bind (M.bind (M.bind (M.bind (M.bind (M.ret ()) fun x95 => M.ret ((fun _ => PyData.none) x95)) fun x158 => M.bind (M.bind (M.bind (M.ret true) fun x96 => M.ret (PyData.bool x96)) fun x156 => M.bind (M.bind (M.bind (M.ret false) fun x97 => M.ret (PyData.bool x97)) fun x154 => M.bind (M.bind (M.bind (M.bind (M.bind (M.ret (0 : Int)) fun x98 => M.bind (M.ret ()) fun x99 => M.ret (x98, x99)) fun r100 => M.ret [r100.1]) fun x101 => M.ret ((fun (xs : (List Int)) => PyData.list (xs.map PyData.int)) x101)) fun x152 => M.bind (M.bind (M.bind (M.bind (M.ret ()) fun _ => M.ret []) fun x102 => M.ret ((fun (xs : (List Int)) => PyData.list (xs.map PyData.int)) x102)) fun x150 => M.bind (M.bind (M.bind (M.ret ()) fun x103 => M.ret (PyData.dict [])) fun x148 => M.bind (M.bind (M.bind (M.bind (M.ret ()) fun x104 => M.bind (M.ret ()) fun x105 => M.ret (x104, x105)) fun x107 => M.ret ((fun (a : (Unit × Unit)) => PyData.tuple ((fun (a : (Unit × Unit)) => (fun _ => PyData.none) a.1 :: (fun (_ : Unit) => ([] : List PyData)) a.2) a)) x107)) fun x146 => M.bind (M.bind (M.bind (M.bind (M.ret ("" : Str)) fun x108 => M.bind (M.ret ()) fun x109 => M.ret (x108, x109)) fun x111 => M.ret ((fun (a : (Str × Unit)) => PyData.tuple ((fun (a : (Str × Unit)) => PyData.str a.1 :: (fun (_ : Unit) => ([] : List PyData)) a.2) a)) x111)) fun x144 => M.bind (M.bind (M.bind (M.bind (M.ret ("a" : Str)) fun x114 => M.bind (M.bind (M.ret (1 : Int)) fun x112 => M.bind (M.ret ()) fun x113 => M.ret (x112, x113)) fun x115 => M.ret (x114, x115)) fun x116 => M.ret ((fun (a : (Str × (Int × Unit))) => PyData.tuple ((fun (a : (Str × (Int × Unit))) => PyData.str a.1 :: (fun (a : (Int × Unit)) => PyData.int a.1 :: (fun (_ : Unit) => ([] : List PyData)) a.2) a.2) a)) x116)) fun x142 => M.bind (M.bind (M.bind (M.bind (M.bind (M.ret ("a" : Str)) fun x117 => M.bind (M.ret ()) fun x118 => M.ret (x117, x118)) fun r119 => M.ret [r119.1]) fun x120 => M.ret ((fun (xs : (List Str)) => PyData.list (xs.map PyData.str)) x120)) fun x140 => M.bind (M.bind (M.bind (M.ret ("" : Str)) fun x121 => M.ret (PyData.str x121)) fun x138 => M.bind (M.bind (M.bind (M.ret ("a b" : Str)) fun x122 => M.ret (PyData.str x122)) fun x136 => M.bind (M.bind (M.bind (M.bind (M.ret (0 : Int)) fun x125 => M.bind (M.bind (M.ret ("1" : Str)) fun x123 => M.bind (M.ret ()) fun x124 => M.ret (x123, x124)) fun x126 => M.ret (x125, x126)) fun x127 => M.ret ((fun (a : (Int × (Str × Unit))) => PyData.tuple ((fun (a : (Int × (Str × Unit))) => PyData.int a.1 :: (fun (a : (Str × Unit)) => PyData.str a.1 :: (fun (_ : Unit) => ([] : List PyData)) a.2) a.2) a)) x127)) fun x134 => M.bind (M.bind (M.bind (M.bind (M.ret false) fun x128 => M.bind (M.ret ()) fun x129 => M.ret (x128, x129)) fun x131 => M.ret ((fun (a : (Bool × Unit)) => PyData.tuple ((fun (a : (Bool × Unit)) => PyData.bool a.1 :: (fun (_ : Unit) => ([] : List PyData)) a.2) a)) x131)) fun x132 => M.bind (M.ret ()) fun x133 => M.ret (x132, x133)) fun x135 => M.ret (x134, x135)) fun x137 => M.ret (x136, x137)) fun x139 => M.ret (x138, x139)) fun x141 => M.ret (x140, x141)) fun x143 => M.ret (x142, x143)) fun x145 => M.ret (x144, x145)) fun x147 => M.ret (x146, x147)) fun x149 => M.ret (x148, x149)) fun x151 => M.ret (x150, x151)) fun x153 => M.ret (x152, x153)) fun x155 => M.ret (x154, x155)) fun x157 => M.ret (x156, x157)) fun x159 => M.ret (x158, x159)) fun r160 => M.ret [r160.1, r160.2.1, r160.2.2.1, r160.2.2.2.1, r160.2.2.2.2.1, r160.2.2.2.2.2.1, r160.2.2.2.2.2.2.1, r160.2.2.2.2.2.2.2.1, r160.2.2.2.2.2.2.2.2.1, r160.2.2.2.2.2.2.2.2.2.1, r160.2.2.2.2.2.2.2.2.2.2.1, r160.2.2.2.2.2.2.2.2.2.2.2.1, r160.2.2.2.2.2.2.2.2.2.2.2.2.1, r160.2.2.2.2.2.2.2.2.2.2.2.2.2.1]) fun x161 => M.pick x161) fun x162 => M.ret (.nx (ρ.1, ρ.2.1, ρ.2.2.1, ρ.2.2.2.1, ρ.2.2.2.2.1, ρ.2.2.2.2.2.1, ρ.2.2.2.2.2.2.1, ρ.2.2.2.2.2.2.2.1, x162, ρ.2.2.2.2.2.2.2.2.2))) fun ρ => (M.bind (M.bind (M.bind (M.bind (M.bind (M.bind (M.ret ρ.2.2.2.2.2.2.2.2.1) fun x163 => M.bind (M.ret ()) fun x164 => M.ret (x163, x164)) fun r165 => M.still (m_is_integer_D r165)) fun x181 => M.bind (M.bind (M.bind (M.bind (M.ret ρ.2.2.2.2.2.2.2.2.1) fun x166 => M.bind (M.ret ()) fun x167 => M.ret (x166, x167)) fun r168 => M.still (m_is_count_D r168)) fun x179 => M.bind (M.bind (M.bind (M.bind (M.ret ρ.2.2.2.2.2.2.2.2.1) fun x169 => M.bind (M.ret ()) fun x170 => M.ret (x169, x170)) fun r171 => M.still (m_is_name_D r171)) fun x177 => M.bind (M.bind (M.bind (M.bind (M.ret ρ.2.2.2.2.2.2.2.2.1) fun x172 => M.bind (M.ret ()) fun x173 => M.ret (x172, x173)) fun r174 => M.still (m_are_names_D r174)) fun x175 => M.bind (M.ret ()) fun x176 => M.ret (x175, x176)) fun x178 => M.ret (x177, x178)) fun x180 => M.ret (x179, x180)) fun x182 => M.ret (x181, x182)) fun r183 => M.ret [r183.1, r183.2.1, r183.2.2.1, r183.2.2.2.1]) fun x189 => M.bind (M.bind (M.bind (M.bind (M.ret false) fun x184 => M.bind (M.ret ()) fun x185 => M.ret (x184, x185)) fun r186 => M.ret [r186.1]) fun x187 => M.bind (M.ret (4 : Int)) fun x188 => M.need (-(2 ^ 63) ≤ x188 ∧ x188 < 2 ^ 63 ∧ x187.length * Int.toNat x188 ≤ sizeLine) (M.ret (List.replicate (Int.toNat x188) x187).flatten)) fun x190 => M.need (((fun (xs : (List Bool)) => PyData.list (xs.map PyData.bool)) x189).canLay0 = true ∧ ((fun (xs : (List Bool)) => PyData.list (xs.map PyData.bool)) x190).canLay0 = true) (M.ret (PyData.eqv ((fun (xs : (List Bool)) => PyData.list (xs.map PyData.bool)) x189) ((fun (xs : (List Bool)) => PyData.list (xs.map PyData.bool)) x190)))) fun x191 => M.ret (.rt x191)))))))))
noncomputable def m__law_judged (a : Unit) : M Bool := M.fin (b__law_judged ((), ((), ((), ((), ((), ((), ((), ((), ((), ()))))))))))
theorem ok__law_judged (F : Fun K "_law_judged" "_law_judged" (topS 31) f fd) (bn : Binds K fd ["_law_dice_here"] []) (G__law_any_integer : GD P w K mg base "_law_any_integer" 4 (spOfD aNil rInt m__law_any_integer)) (G__law_any_word : GD P w K mg base "_law_any_word" 3 (spOfD aNil rStr m__law_any_word)) (fr : Free mg) (G_is_integer_D : GD P w K mg base "is_integer" 3 (spOf (aCons (rDt K) aNil) rBl m_is_integer_D)) (G_is_count_D : GD P w K mg base "is_count" 4 (spOf (aCons (rDt K) aNil) rBl m_is_count_D)) (G_is_name : GD P w K mg base "is_name" 2 (spOf (aCons rStr aNil) rBl m_is_name)) (G__law_lettered : GD P w K mg base "_law_lettered" 2 (spOf (aCons rStr aNil) rBl m__law_lettered)) (G__law_roll : GD P w K mg base "_law_roll" 2 spRoll) (G_are_names : GD P w K mg base "are_names" 3 (spOf (aCons (rTup K rStr) aNil) rBl m_are_names)) (G__law_pick : GD P w K mg base "_law_pick" 3 spPick) (G_is_name_D : GD P w K mg base "is_name" 2 (spOf (aCons (rDt K) aNil) rBl m_is_name_D)) (G_are_names_D : GD P w K mg base "are_names" 3 (spOf (aCons (rDt K) aNil) rBl m_are_names_D)) : FnG P w K mg base 5 f 1 (spOfD aNil rBl m__law_judged) := by
  refine PF.Fun.okG F sc__law_judged bn (fun cdv A outer s H vs Q hgd hr h => ⟨_, (pss_cons (ps_par (i := 1) (j := 2) (by rfl) sc__law_judged.nd rfl rfl (by decide) rfl rfl (pa_cons (pe_c1 G__law_any_integer (hr.mono (by decide)) (pa_cons (pv 0) pa_nil)) (pa_cons (pe_c1 G__law_any_word (hr.mono (by decide)) (pa_cons (pv 0) pa_nil)) pa_nil)) (by rfl))
  (pss_cons (ps_set (i := 3) sc__law_judged.nd rfl (by first | exact Or.inl rfl | exact Or.inr rfl) (pe_cmpR op_le (pe_callB call_len_str (by rfl) fr.b_len (by decide +kernel) (pa_cons (pe_callTy call_str_int (by rfl) fr.b_str (by decide +kernel) (pa_cons (pe_callB call_abs (by rfl) fr.b_abs (by decide +kernel) (pa_cons (pv 1) pa_nil)) pa_nil)) pa_nil)) pe_int (nomark _)))
  (pss_cons (ps_set (i := 4) sc__law_judged.nd rfl (by first | exact Or.inl rfl | exact Or.inr rfl) (pe_lst (pa_cons (pe_c1 G_is_integer_D (hr.mono (by decide)) (pa_cons (pv 1) pa_nil)) (pa_cons (pe_c1 G_is_count_D (hr.mono (by decide)) (pa_cons (pv 1) pa_nil)) (pa_cons (pe_c1 G_is_name (hr.mono (by decide)) (pa_cons (pv 2) pa_nil)) pa_nil)))))
  (pss_cons (ps_if (pt_cmpR op_ne (pe_callB (call_repr hgd (hu100 hr)) (by rfl) fr.b_repr (by decide +kernel) (pa_cons (pv 4) pa_nil)) (pe_callB (call_repr hgd (hu100 hr)) (by rfl) fr.b_repr (by decide +kernel) (pa_cons (pe_lst (pa_cons (pv 3) (pa_cons (pe_and (pv 3) (pe_one (pe_cmpR op_ge (pv 1) pe_int (nomark _)))) (pa_cons (pe_c1 G__law_lettered (hr.mono (by decide)) (pa_cons (pv 2) pa_nil)) pa_nil)))) pa_nil)) (nomark _)) (pss_one (ps_ret pe_bl)) pss_nil)
  (pss_cons (ps_set (i := 5) sc__law_judged.nd rfl (by first | exact Or.inl rfl | exact Or.inr rfl) (pe_callTy call_tuple_of (by rfl) fr.b_tuple (by decide +kernel) (pa_cons (pe_lc (own := [("_law_turn", 6)]) (by rfl) sc__law_judged.nd  (pi_range1 (by rfl) fr.b_range (pa_cons (pe_c1 G__law_roll (hr.mono (by decide)) (pa_cons (pv 0) (pa_cons pe_int pa_nil))) pa_nil)) (blkOk_by (own := [("_law_turn", 6)]) (N := ["_law_dice_here", "_law_number", "_law_word", "_law_is_short", "_law_told", "_law_words", "_law_turn", "_law_one", "_law_odd"]) (sc := defScope (topS 31)) (by decide +kernel)) (fun _ _ _ _ _ => (pg_name (i := 6) sc__law_judged.nd rfl (by first | exact Or.inl rfl | exact Or.inr rfl))) (fun _ _ _ _ _ => pts_nil) (fun _ _ _ _ _ => (pe_c1 G__law_any_word (hr.mono (by decide)) (pa_cons (pv 0) pa_nil)))) pa_nil)))
  (pss_cons (ps_if (pt_cmpR op_ne (pe_callB (call_repr hgd (hu100 hr)) (by rfl) fr.b_repr (by decide +kernel) (pa_cons (pe_c1 G_are_names (hr.mono (by decide)) (pa_cons (pv 5) pa_nil)) pa_nil)) (pe_callB (call_repr hgd (hu100 hr)) (by rfl) fr.b_repr (by decide +kernel) (pa_cons (pe_cmpR (op_eqD (have h := hu64 hr; h) : OpR _ _ (rEqD K)) (pe_lc (own := [("_law_one", 7)]) (by rfl) sc__law_judged.nd  (pi_tup (pv 5)) (blkOk_by (own := [("_law_one", 7)]) (N := ["_law_dice_here", "_law_number", "_law_word", "_law_is_short", "_law_told", "_law_words", "_law_turn", "_law_one", "_law_odd"]) (sc := defScope (topS 31)) (by decide +kernel)) (fun _ _ _ _ _ => (pg_name (i := 7) sc__law_judged.nd rfl (by first | exact Or.inl rfl | exact Or.inr rfl))) (fun _ _ _ _ _ => (pts_one (pt_not (pt_val (pe_c1 G__law_lettered (hr.mono (by decide)) (pa_cons (pv 7) pa_nil)))))) (fun _ _ _ _ _ => (pv 7))) (pe_lst pa_nil) (nomark _)) pa_nil)) (nomark _)) (pss_one (ps_ret pe_bl)) pss_nil)
  (pss_cons (ps_set (i := 8) sc__law_judged.nd rfl (by first | exact Or.inl rfl | exact Or.inr rfl) (pe_c1 G__law_pick (hr.mono (by decide)) (pa_cons (pv 0) (pa_cons (pe_lst (pa_cons pe_non (pa_cons pe_bl (pa_cons pe_bl (pa_cons (pe_lst (pa_cons pe_int pa_nil)) (pa_cons (pe_lst pa_nil) (pa_cons pe_dnewK (pa_cons (pe_tup (pa_cons pe_non pa_nil)) (pa_cons (pe_tup (pa_cons pe_str pa_nil)) (pa_cons (pe_tup (pa_cons pe_str (pa_cons pe_int pa_nil))) (pa_cons (pe_lst (pa_cons pe_str pa_nil)) (pa_cons pe_str (pa_cons pe_str (pa_cons (pe_tup (pa_cons pe_int (pa_cons pe_str pa_nil))) (pa_cons (pe_tup (pa_cons pe_bl pa_nil)) pa_nil))))))))))))))) pa_nil))))
  (pss_one (ps_ret (pe_cmpR (op_eqD (have h := hu64 hr; h) : OpR _ _ (rEqD K)) (pe_lst (pa_cons (pe_c1 G_is_integer_D (hr.mono (by decide)) (pa_cons (pv 8) pa_nil)) (pa_cons (pe_c1 G_is_count_D (hr.mono (by decide)) (pa_cons (pv 8) pa_nil)) (pa_cons (pe_c1 G_is_name_D (hr.mono (by decide)) (pa_cons (pv 8) pa_nil)) (pa_cons (pe_c1 G_are_names_D (hr.mono (by decide)) (pa_cons (pv 8) pa_nil)) pa_nil))))) (pe_op op_rep (pe_lst (pa_cons pe_bl pa_nil)) pe_int) (nomark _))))))))))), ?_⟩)
  refine fn_bodyD (X := E0) (S := aNil) (E' := eNil) (R := rBl) (st_dice (st_un (st_un (st_un (st_un (st_un (st_un (st_un (st_un st_nil))))))))) rfl (s_seq (s_parV (sv_e (e_callD get0 a_nil)) (sv_e (e_callD get0 a_nil)) pu1 pu2)
  (s_seq (s_asg (e_op (o_ib fun _ _ => rfl) (e_ca c_lenS (a_cons (e_ca c_strI (a_cons (e_ca c_abs (a_cons (e_var gt1) a_nil)) a_nil)) a_nil)) e_int) (g_name pu3))
  (s_seq (s_asg (SN.se (n_lst (hom_cons (hom_cons (hom_cons hom_nil))) (a_cons (e_call (a_cons (e_dat dp_int (e_var gt1)) a_nil)) (a_cons (e_call (a_cons (e_dat dp_int (e_var gt1)) a_nil)) (a_cons (e_call (a_cons (e_var gt2) a_nil)) a_nil))) (le_n 3))) (g_name pu4))
  (s_seq (s_if (t_of (e_op (o_ne sc_str) (e_ca (c_repr (d := (fun (xs : (List Bool)) => PyData.list (xs.map PyData.bool))) (dp_ls dp_bl)) (a_cons (e_var gt4) a_nil)) (e_ca (c_repr (d := (fun (xs : (List Bool)) => PyData.list (xs.map PyData.bool))) (dp_ls dp_bl)) (a_cons (SN.se (n_lst (hom_cons (hom_cons (hom_cons hom_nil))) (a_cons (e_var gt3) (a_cons (e_and (e_var gt3) (e_op (o_ib fun _ _ => rfl) (e_var gt1) e_int)) (a_cons (e_call (a_cons (e_var gt2) a_nil)) a_nil))) (le_n 3))) a_nil)))) (s_ret e_bl) s_nil)
  (s_seq (s_asg (e_ca c_tupL (a_cons (SN.se (n_lc (i_rng1 (e_roll get0 e_int)) (gw_name pu6) t_yes (e_callD get0 a_nil))) a_nil)) (g_name pu5))
  (s_seq (s_if (t_of (e_op (o_ne sc_str) (e_ca (c_repr (d := PyData.bool) dp_bl) (a_cons (e_call (a_cons (e_var gt5) a_nil)) a_nil)) (e_ca (c_repr (d := PyData.bool) dp_bl) (a_cons (e_op (o_eqD (da := (fun (xs : (List Str)) => PyData.list (xs.map PyData.str))) (db := (fun (xs : (List Str)) => PyData.list (xs.map PyData.str))) (dp_ls dp_str) (dp_ls dp_str)) (SN.se (n_lc (i_tup (e_var gt5)) (gw_name pu7) (t_not (t_b (e_call (a_cons (e_var gt7) a_nil)))) (e_var gt7))) (SN.se (n_lst (Ra := rStr) hom_nil a_nil (le_n 0)))) a_nil)))) (s_ret e_bl) s_nil)
  (s_seq (s_asg (e_pick get0 (SN.se (n_lst (hom_cons (hom_cons (hom_cons (hom_cons (hom_cons (hom_cons (hom_cons (hom_cons (hom_cons (hom_cons (hom_cons (hom_cons (hom_cons (hom_cons hom_nil)))))))))))))) (a_cons (e_dat dp_non e_non) (a_cons (e_dat dp_bl e_bl) (a_cons (e_dat dp_bl e_bl) (a_cons (e_dat (dp_ls dp_int) (SN.se (n_lst (hom_cons hom_nil) (a_cons e_int a_nil) (le_n 1)))) (a_cons (e_dat (dp_ls dp_int) (SN.se (n_lst hom_nil a_nil (le_n 0)))) (a_cons (e_d0Dt e_dnew) (a_cons (e_dat (dp_tx (dpa_cons dp_non dpa_nil)) (e_tup (a_cons e_non a_nil) (le_n 1))) (a_cons (e_dat (dp_tx (dpa_cons dp_str dpa_nil)) (e_tup (a_cons e_str a_nil) (le_n 1))) (a_cons (e_dat (dp_tx (dpa_cons dp_str (dpa_cons dp_int dpa_nil))) (e_tup (a_cons e_str (a_cons e_int a_nil)) (le_n 2))) (a_cons (e_dat (dp_ls dp_str) (SN.se (n_lst (hom_cons hom_nil) (a_cons e_str a_nil) (le_n 1)))) (a_cons (e_dat dp_str e_str) (a_cons (e_dat dp_str e_str) (a_cons (e_dat (dp_tx (dpa_cons dp_int (dpa_cons dp_str dpa_nil))) (e_tup (a_cons e_int (a_cons e_str a_nil)) (le_n 2))) (a_cons (e_dat (dp_tx (dpa_cons dp_bl dpa_nil)) (e_tup (a_cons e_bl a_nil) (le_n 1))) a_nil)))))))))))))) (le_n 14)))) (g_name pu8))
  (s_ret (e_op (o_eqD (da := (fun (xs : (List Bool)) => PyData.list (xs.map PyData.bool))) (db := (fun (xs : (List Bool)) => PyData.list (xs.map PyData.bool))) (dp_ls dp_bl) (dp_ls dp_bl)) (SN.se (n_lst (hom_cons (hom_cons (hom_cons (hom_cons hom_nil)))) (a_cons (e_call (a_cons (e_var gt8) a_nil)) (a_cons (e_call (a_cons (e_var gt8) a_nil)) (a_cons (e_call (a_cons (e_var gt8) a_nil)) (a_cons (e_call (a_cons (e_var gt8) a_nil)) a_nil)))) (le_n 4))) (SN.se (n_op o_rep (SN.se (n_lst (hom_cons hom_nil) (a_cons e_bl a_nil) (le_n 1))) e_int))))))))))) ?_
  exact h
theorem sc__law_listed : FnScope ["_law_dice_here", "_law_index", "_law_names", "_law_turn", "_law_times", "_law_due", "_law_one", "_law_at"] ["_law_dice_here"] (defScope (topS 32)) := ⟨rfl, rfl, rfl, by decide +kernel, rfl, by decide +kernel, by decide +kernel⟩
noncomputable def b__law_listed (ρ : (Unit × (Unit × (Unit × (Unit × (Unit × (Unit × (Unit × (Unit × Unit))))))))) : M (Ct Unit Unit Bool) := (M.thn (M.bind (M.bind (M.bind (M.bind (M.bind (M.ret (0 : Int)) fun x202 => M.bind (M.bind (M.ret (20 : Int)) fun x200 => M.bind (M.bind (M.ret (26 : Int)) fun x198 => M.bind (M.bind (M.ret (50 : Int)) fun x196 => M.bind (M.bind (M.ret (676 : Int)) fun x194 => M.bind (M.bind (M.ret (690 : Int)) fun x192 => M.bind (M.ret ()) fun x193 => M.ret (x192, x193)) fun x195 => M.ret (x194, x195)) fun x197 => M.ret (x196, x197)) fun x199 => M.ret (x198, x199)) fun x201 => M.ret (x200, x201)) fun x203 => M.ret (x202, x203)) fun r204 => M.ret [r204.1, r204.2.1, r204.2.2.1, r204.2.2.2.1, r204.2.2.2.2.1, r204.2.2.2.2.2.1]) fun x205 => M.pick x205) fun x207 => M.bind (M.bind (M.ret (30 : Int)) fun x206 => M.roll x206) fun x208 => M.ret (x207 + x208)) fun x209 => M.ret (.nx (ρ.1, x209, ρ.2.2))) fun ρ => (M.thn (M.bind (M.bind (M.ret ρ.2.1) fun x210 => M.bind (M.ret (701 : Int)) fun x211 => M.ret (decide (x211 < x210))) fun x225 => M.ifb x225 (M.bind (M.bind (M.still (m__law_error ((fun ρ => (M.bind (M.bind (M.safe (M.bind (M.bind (M.ret ρ.2.1) fun x212 => M.ret (PyData.int x212)) fun x213 => M.bind (M.ret ()) fun x214 => M.ret (x213, x214))) fun r215 => M.still (m_nth_name_X r215)) fun x216 => M.ret ())) ((), ρ.2.1, (), (), (), (), (), (), ρ.2.2.2.2.2.2.2.2)))) fun x222 => M.bind (M.bind (M.ret ("count " : Str)) fun x220 => M.bind (M.bind (M.bind (M.ret ρ.2.1) fun x217 => M.bind (M.ret ()) fun x218 => M.ret (x217, x218)) fun r219 => M.need ((PyData.int r219.1).showable = true ∧ (PyData.int r219.1).hasDict = false ∧ (PyData.int r219.1).shown.length ≤ sizeLine ∧ (PyData.int r219.1).depth ≤ 64) (M.ret (PyData.int r219.1).shown)) fun x221 => M.need (Str.length x220 + Str.length x221 ≤ sizeLine) (M.ret (x220 ++ x221))) fun x223 => M.ret (decide (x222 = x223))) fun x224 => M.ret (.rt x224)) (M.ret (.nx ρ))) fun ρ => (M.thn (M.bind (M.bind (M.bind (M.bind (M.ret ρ.2.1) fun x226 => M.bind (M.ret ()) fun x227 => M.ret (x226, x227)) fun r228 => M.still (m_nth_name r228)) fun x232 => M.bind (M.bind (M.bind (M.ret ρ.2.1) fun x229 => M.bind (M.ret ()) fun x230 => M.ret (x229, x230)) fun r231 => M.still (m__law_nth r231)) fun x233 => M.ret (!decide (x232 = x233))) fun x235 => M.ifb x235 (M.bind (M.ret false) fun x234 => M.ret (.rt x234)) (M.ret (.nx ρ))) fun ρ => (M.thn (M.bind (M.bind (M.bind (M.bind (M.ret (40 : Int)) fun x236 => M.roll x236) fun x237 => M.need (-(2 ^ 62) ≤ x237 ∧ x237 < 2 ^ 62) (M.ret (rng 0 x237))) fun l251 => M.need (l251.length ≤ 1000000) (M.lcM l251 fun (a252 : Int) => M.bind ((fun ρ => (M.ret true)) (ρ.1, ρ.2.1, ρ.2.2.1, a252, ρ.2.2.2.2)) fun (b253 : Bool) => M.ifb b253 (M.bind ((fun ρ => (M.bind (M.bind (M.bind (M.bind (M.bind (M.bind (M.ret (4 : Int)) fun x242 => M.bind (M.bind (M.ret (30 : Int)) fun x240 => M.bind (M.bind (M.ret (120 : Int)) fun x238 => M.bind (M.ret ()) fun x239 => M.ret (x238, x239)) fun x241 => M.ret (x240, x241)) fun x243 => M.ret (x242, x243)) fun r244 => M.ret [r244.1, r244.2.1, r244.2.2.1]) fun x245 => M.pick x245) fun x246 => M.roll x246) fun x247 => M.bind (M.ret ()) fun x248 => M.ret (x247, x248)) fun r249 => M.still (m__law_nth r249))) (ρ.1, ρ.2.1, ρ.2.2.1, a252, ρ.2.2.2.2)) fun (y254 : Str) => M.ret (some y254)) (M.ret none))) fun x255 => M.ret (.nx (ρ.1, ρ.2.1, x255, ρ.2.2.2))) fun ρ => (M.thn (M.bind (M.bind (M.bind (M.bind (M.ret ρ.2.2.1) fun x270 => M.bind (M.bind (M.bind (M.bind (M.bind (M.ret ("pieces" : Str)) fun x264 => M.bind (M.bind (M.ret ("zzzzzzzz" : Str)) fun x262 => M.bind (M.bind (M.ret ("ab" : Str)) fun x260 => M.bind (M.bind (M.ret ("a" : Str)) fun x258 => M.bind (M.bind (M.ret ("b" : Str)) fun x256 => M.bind (M.ret ()) fun x257 => M.ret (x256, x257)) fun x259 => M.ret (x258, x259)) fun x261 => M.ret (x260, x261)) fun x263 => M.ret (x262, x263)) fun x265 => M.ret (x264, x265)) fun r266 => M.ret [r266.1, r266.2.1, r266.2.2.1, r266.2.2.2.1, r266.2.2.2.2.1]) fun x267 => M.bind (M.ret ()) fun x268 => M.ret (x267, x268)) fun r269 => m__law_some r269) fun x271 => M.need (x270.length + x271.length ≤ sizeLine) (M.ret (x270 ++ x271))) fun x272 => M.bind (M.ret ()) fun x273 => M.ret (x272, x273)) fun r274 => m__law_mixed r274) fun x275 => M.ret (.nx (ρ.1, ρ.2.1, x275, ρ.2.2.2))) fun ρ => (M.thn (M.bind (M.bind (M.bind (M.bind (M.ret (0 : Int)) fun x286 => M.bind (M.bind (M.ret (1 : Int)) fun x284 => M.bind (M.bind (M.ret (2 : Int)) fun x282 => M.bind (M.bind (M.ret (5 : Int)) fun x280 => M.bind (M.bind (M.ret (30 : Int)) fun x278 => M.bind (M.bind (M.ret (100 : Int)) fun x276 => M.bind (M.ret ()) fun x277 => M.ret (x276, x277)) fun x279 => M.ret (x278, x279)) fun x281 => M.ret (x280, x281)) fun x283 => M.ret (x282, x283)) fun x285 => M.ret (x284, x285)) fun x287 => M.ret (x286, x287)) fun r288 => M.ret [r288.1, r288.2.1, r288.2.2.1, r288.2.2.2.1, r288.2.2.2.2.1, r288.2.2.2.2.2.1]) fun x289 => M.pick x289) fun x290 => M.ret (.nx (ρ.1, ρ.2.1, ρ.2.2.1, ρ.2.2.2.1, x290, ρ.2.2.2.2.2))) fun ρ => (M.thn (M.bind (M.bind (M.bind (M.bind (M.bind (M.ret (200 : Int)) fun x291 => M.need (-(2 ^ 62) ≤ x291 ∧ x291 < 2 ^ 62) (M.ret (rng 0 x291))) fun l296 => M.need (l296.length ≤ 1000000) (M.lcM l296 fun (a297 : Int) => M.bind ((fun ρ => (M.ret true)) (ρ.1, ρ.2.1, ρ.2.2.1, ρ.2.2.2.1, ρ.2.2.2.2.1, ρ.2.2.2.2.2.1, ρ.2.2.2.2.2.2.1, a297, ρ.2.2.2.2.2.2.2.2)) fun (b298 : Bool) => M.ifb b298 (M.bind ((fun ρ => (M.bind (M.bind (M.ret ρ.2.2.2.2.2.2.2.1) fun x292 => M.bind (M.ret ()) fun x293 => M.ret (x292, x293)) fun r294 => M.still (m__law_nth r294))) (ρ.1, ρ.2.1, ρ.2.2.1, ρ.2.2.2.1, ρ.2.2.2.2.1, ρ.2.2.2.2.2.1, ρ.2.2.2.2.2.2.1, a297, ρ.2.2.2.2.2.2.2.2)) fun (y299 : Str) => M.ret (some y299)) (M.ret none))) fun l303 => M.need (l303.length ≤ 1000000) (M.lcM l303 fun (a304 : Str) => M.bind ((fun ρ => (M.bind (M.ret ρ.2.2.2.2.2.2.1) fun x300 => M.bind (M.ret ρ.2.2.1) fun x301 => M.need ((PyData.str x300).canLay0 = true ∧ (PyData.list (x301.map PyData.str)).canLay0 = true) (M.ret (!(x301.map PyData.str).any fun z => PyData.eqv z (PyData.str x300))))) (ρ.1, ρ.2.1, ρ.2.2.1, ρ.2.2.2.1, ρ.2.2.2.2.1, ρ.2.2.2.2.2.1, a304, ρ.2.2.2.2.2.2.2)) fun (b305 : Bool) => M.ifb b305 (M.bind ((fun ρ => (M.ret ρ.2.2.2.2.2.2.1)) (ρ.1, ρ.2.1, ρ.2.2.1, ρ.2.2.2.1, ρ.2.2.2.2.1, ρ.2.2.2.2.2.1, a304, ρ.2.2.2.2.2.2.2)) fun (y306 : Str) => M.ret (some y306)) (M.ret none))) fun x308 => M.bind (M.ret (none : Option Int)) fun x309 => M.bind (M.bind (M.ret ρ.2.2.2.2.1) fun x307 => M.ret (some x307)) fun x310 => M.ret (cutL x308 x309 x310)) fun x311 => M.ret (.nx (ρ.1, ρ.2.1, ρ.2.2.1, ρ.2.2.2.1, ρ.2.2.2.2.1, x311, ρ.2.2.2.2.2.2))) fun ρ => (M.bind (M.bind (M.bind (M.bind (M.bind (M.bind (M.ret ρ.2.2.1) fun x312 => M.bind (M.ret ()) fun x313 => M.ret (x312, x313)) fun r314 => M.ret r314.1) fun x317 => M.bind (M.bind (M.ret ρ.2.2.2.2.1) fun x315 => M.bind (M.ret ()) fun x316 => M.ret (x315, x316)) fun x318 => M.ret (x317, x318)) fun r319 => M.still (m_new_names r319)) fun x323 => M.bind (M.bind (M.bind (M.ret ρ.2.2.2.2.2.1) fun x320 => M.bind (M.ret ()) fun x321 => M.ret (x320, x321)) fun r322 => M.ret r322.1) fun x324 => M.need (((fun (xs : (List Str)) => PyData.tuple (xs.map PyData.str)) x323).canLay0 = true ∧ ((fun (xs : (List Str)) => PyData.tuple (xs.map PyData.str)) x324).canLay0 = true) (M.ret (PyData.eqv ((fun (xs : (List Str)) => PyData.tuple (xs.map PyData.str)) x323) ((fun (xs : (List Str)) => PyData.tuple (xs.map PyData.str)) x324)))) fun x325 => M.ret (.rt x325)))))))))
noncomputable def m__law_listed (a : Unit) : M Bool := M.fin (b__law_listed ((), ((), ((), ((), ((), ((), ((), ((), ())))))))))
theorem ok__law_listed (F : FunC K "_law_listed" "_law_listed" (topS 32) f fd 186) (bn : Binds K fd ["_law_dice_here"] []) {A_InvalidOperation : Addr} (G__law_pick : GD P w K mg base "_law_pick" 3 spPick) (G__law_roll : GD P w K mg base "_law_roll" 2 spRoll) (R_nth_name : GR P w K mg base "nth_name" 5 (spOfF K mg flE (aCons (rDt K) aNil) rStr m_nth_name_X)) (T__law_error : GTh K mg "_law_error" "_law_call" (topS 27)) (TB__law_listed : LamX.TabB base mg 186 184) (Y_InvalidCount : GErr P K mg "InvalidCount" "value" A_InvalidCount) (fr : Free mg) (E_InvalidCount_InvalidCount : PySem.W.exmOne K (.ref A_InvalidCount) (.ref A_InvalidCount) = some true) (X_InvalidOperation : GX K mg "InvalidOperation" A_InvalidOperation) (E_InvalidOperation_InvalidCount : PySem.W.exmOne K (.ref A_InvalidOperation) (.ref A_InvalidCount) = some false) (E_InvalidOperation_InvalidOperation : PySem.W.exmOne K (.ref A_InvalidOperation) (.ref A_InvalidOperation) = some true) (G_nth_name : GD P w K mg base "nth_name" 5 (spOf (aCons rInt aNil) rStr m_nth_name)) (G__law_nth : GD P w K mg base "_law_nth" 2 (spOf (aCons rInt aNil) rStr m__law_nth)) (G__law_some : GD P w K mg base "_law_some" 3 (spOfD (aCons (rLs rStr) aNil) (rLs rStr) m__law_some)) (G__law_mixed : GD P w K mg base "_law_mixed" 3 (spOfD (aCons (rLs rStr) aNil) (rLs rStr) m__law_mixed)) (G_new_names : GD P w K mg base "new_names" 6 (spOf (aCons (rTup K rStr) (aCons rInt aNil)) (rTup K rStr) m_new_names)) : FnG P w K mg base 10 f 1 (spOfDT aNil rBl m__law_listed) := by
  refine PF.FunC.okG F sc__law_listed bn (fun A outer s H vs Q hgd hr h => ⟨_, (pss_cons (ps_set (i := 1) sc__law_listed.nd rfl (by first | exact Or.inl rfl | exact Or.inr rfl) (pe_op op_add (pe_c1 G__law_pick (hr.mono (by decide)) (pa_cons (pv 0) (pa_cons (pe_lst (pa_cons pe_int (pa_cons pe_int (pa_cons pe_int (pa_cons pe_int (pa_cons pe_int (pa_cons pe_int pa_nil))))))) pa_nil))) (pe_c1 G__law_roll (hr.mono (by decide)) (pa_cons (pv 0) (pa_cons pe_int pa_nil)))))
  (pss_cons (ps_if (pt_cmpR op_gt (pv 1) pe_int (nomark _)) (pss_one (ps_ret (pe_cmpR op_eq (pe_lmT (k := 0) (Ng := ["_law_call", "e"]) (c := 186) (P := 184) T__law_error sc__law_error rfl (by first | exact Or.inl rfl | exact Or.inr (Or.inl rfl)) (gv__law_error Y_InvalidCount fr E_InvalidCount_InvalidCount X_InvalidOperation E_InvalidOperation_InvalidCount E_InvalidOperation_InvalidOperation hgd) TB__law_listed rfl (hr.mono (by decide)) (LamX.lamS_by (sc := defScope (topS 32)) (by decide +kernel)) (fun A outer s H E f c' hr => (pe_cX (takes_of rfl rfl rfl rfl) R_nth_name (hr.mono (by decide)) (pa_cons (pv 1) pa_nil)))) (pe_op op_add_str pe_str (pe_callB (call_repr hgd (hu100 hr)) (by rfl) fr.b_repr (by decide +kernel) (pa_cons (pv 1) pa_nil))) (nomark _)))) pss_nil)
  (pss_cons (ps_if (pt_cmpR op_ne (pe_c1 G_nth_name (hr.mono (by decide)) (pa_cons (pv 1) pa_nil)) (pe_c1 G__law_nth (hr.mono (by decide)) (pa_cons (pv 1) pa_nil)) (nomark _)) (pss_one (ps_ret pe_bl)) pss_nil)
  (pss_cons (ps_set (i := 2) sc__law_listed.nd rfl (by first | exact Or.inl rfl | exact Or.inr rfl) (pe_lc (own := [("_law_turn", 3)]) (by rfl) sc__law_listed.nd  (pi_range1 (by rfl) fr.b_range (pa_cons (pe_c1 G__law_roll (hr.mono (by decide)) (pa_cons (pv 0) (pa_cons pe_int pa_nil))) pa_nil)) (blkOk_by (own := [("_law_turn", 3)]) (N := ["_law_dice_here", "_law_index", "_law_names", "_law_turn", "_law_times", "_law_due", "_law_one", "_law_at"]) (sc := defScope (topS 32)) (by decide +kernel)) (fun _ _ _ _ _ => (pg_name (i := 3) sc__law_listed.nd rfl (by first | exact Or.inl rfl | exact Or.inr rfl))) (fun _ _ _ _ _ => pts_nil) (fun _ _ _ _ _ => (pe_c1 G__law_nth (hr.mono (by decide)) (pa_cons (pe_c1 G__law_roll (hr.mono (by decide)) (pa_cons (pv 0) (pa_cons (pe_c1 G__law_pick (hr.mono (by decide)) (pa_cons (pv 0) (pa_cons (pe_lst (pa_cons pe_int (pa_cons pe_int (pa_cons pe_int pa_nil)))) pa_nil))) pa_nil))) pa_nil)))))
  (pss_cons (ps_set (i := 2) sc__law_listed.nd rfl (by first | exact Or.inl rfl | exact Or.inr rfl) (pe_c1 G__law_mixed (hr.mono (by decide)) (pa_cons (pv 0) (pa_cons (pe_op op_cat (pv 2) (pe_c1 G__law_some (hr.mono (by decide)) (pa_cons (pv 0) (pa_cons (pe_lst (pa_cons pe_str (pa_cons pe_str (pa_cons pe_str (pa_cons pe_str (pa_cons pe_str pa_nil)))))) pa_nil)))) pa_nil))))
  (pss_cons (ps_set (i := 4) sc__law_listed.nd rfl (by first | exact Or.inl rfl | exact Or.inr rfl) (pe_c1 G__law_pick (hr.mono (by decide)) (pa_cons (pv 0) (pa_cons (pe_lst (pa_cons pe_int (pa_cons pe_int (pa_cons pe_int (pa_cons pe_int (pa_cons pe_int (pa_cons pe_int pa_nil))))))) pa_nil))))
  (pss_cons (ps_set (i := 5) sc__law_listed.nd rfl (by first | exact Or.inl rfl | exact Or.inr rfl) (pe_slice sl_list (pe_lc (own := [("_law_one", 6)]) (by rfl) sc__law_listed.nd  (pi_list (pe_lc (own := [("_law_at", 7)]) (by rfl) sc__law_listed.nd  (pi_range1 (by rfl) fr.b_range (pa_cons pe_int pa_nil)) (blkOk_by (own := [("_law_at", 7)]) (N := ["_law_dice_here", "_law_index", "_law_names", "_law_turn", "_law_times", "_law_due", "_law_one", "_law_at"]) (sc := defScope (topS 32)) (by decide +kernel)) (fun _ _ _ _ _ => (pg_name (i := 7) sc__law_listed.nd rfl (by first | exact Or.inl rfl | exact Or.inr rfl))) (fun _ _ _ _ _ => pts_nil) (fun _ _ _ _ _ => (pe_c1 G__law_nth (hr.mono (by decide)) (pa_cons (pv 7) pa_nil))))) (blkOk_by (own := [("_law_one", 6)]) (N := ["_law_dice_here", "_law_index", "_law_names", "_law_turn", "_law_times", "_law_due", "_law_one", "_law_at"]) (sc := defScope (topS 32)) (by decide +kernel)) (fun _ _ _ _ _ => (pg_name (i := 6) sc__law_listed.nd rfl (by first | exact Or.inl rfl | exact Or.inr rfl))) (fun _ _ _ _ _ => (pts_one (pt_cmpR (op_notInD (hu65 hr) : OpR _ _ (rNotInD K)) (pv 6) (pv 2) (by rfl)))) (fun _ _ _ _ _ => (pv 6))) po_none (po_some (pv 4))))
  (pss_one (ps_ret (pe_cmpR (op_eqD (have h := hu64 hr; h) : OpR _ _ (rEqD K)) (pe_c1 G_new_names (hr.mono (by decide)) (pa_cons (pe_callTy call_tuple_of (by rfl) fr.b_tuple (by decide +kernel) (pa_cons (pv 2) pa_nil)) (pa_cons (pv 4) pa_nil))) (pe_callTy call_tuple_of (by rfl) fr.b_tuple (by decide +kernel) (pa_cons (pv 5) pa_nil)) (nomark _))))))))))), ?_⟩)
  refine fn_bodyDT (X := E0) (S := aNil) (E' := eNil) (R := rBl) (stt_dice (stt_un (stt_un (stt_un (stt_un (stt_un (stt_un (stt_un stt_nil)))))))) rfl (s_seq (s_asg (e_op (o_ii fun _ _ => rfl) (e_pick get0 (SN.se (n_lst (hom_cons (hom_cons (hom_cons (hom_cons (hom_cons (hom_cons hom_nil)))))) (a_cons e_int (a_cons e_int (a_cons e_int (a_cons e_int (a_cons e_int (a_cons e_int a_nil)))))) (le_n 6)))) (e_roll get0 e_int)) (g_name pu1))
  (s_seq (s_if (t_of (e_op (o_ib fun _ _ => rfl) (e_var gt1) e_int)) (s_ret (e_op (o_eq sc_str) (e_lam (P := 184) (q := ((Str.ofString "_law_listed") ++ (Str.ofString ".<locals>.") ++ (Str.ofString "<lambda>"))) (R := rStr) (mw := m__law_error) List.mem_cons_self (by decide +kernel) (hasTS (hasTS (hasTS (hasTS (hasTS (hasTS (hasTS (hasTS hasT0)))))))) (plv_un (plv_val (plv_un (plv_un (plv_un (plv_un (plv_un (plv_un plv_tab)))))))) (fun XE => (se_any (e_callF (fun _ => rfl) (sa_safe (a_cons (e_dat dp_int (e_var gt1)) a_nil)))))) (e_op o_addS e_str (e_ca (c_repr (d := PyData.int) dp_int) (a_cons (e_var gt1) a_nil))))) s_nil)
  (s_seq (s_if (t_of (e_op (o_ne sc_str) (e_call (a_cons (e_var gt1) a_nil)) (e_call (a_cons (e_var gt1) a_nil)))) (s_ret e_bl) s_nil)
  (s_seq (s_asg (SN.se (n_lc (i_rng1 (e_roll get0 e_int)) (gw_name pu3) t_yes (e_call (a_cons (e_roll get0 (e_pick get0 (SN.se (n_lst (hom_cons (hom_cons (hom_cons hom_nil))) (a_cons e_int (a_cons e_int (a_cons e_int a_nil))) (le_n 3))))) a_nil)))) (g_name pu2))
  (s_seq (s_asg (e_callD get0 (a_cons (SN.se (n_op o_catL (e_var gt2) (e_callD get0 (a_cons (SN.se (n_lst (hom_cons (hom_cons (hom_cons (hom_cons (hom_cons hom_nil))))) (a_cons e_str (a_cons e_str (a_cons e_str (a_cons e_str (a_cons e_str a_nil))))) (le_n 5))) a_nil)))) a_nil)) (g_name pu2))
  (s_seq (s_asg (e_pick get0 (SN.se (n_lst (hom_cons (hom_cons (hom_cons (hom_cons (hom_cons (hom_cons hom_nil)))))) (a_cons e_int (a_cons e_int (a_cons e_int (a_cons e_int (a_cons e_int (a_cons e_int a_nil)))))) (le_n 6)))) (g_name pu4))
  (s_seq (s_asg (SN.se (n_sl sl_L (SN.se (n_lc (i_ls (SN.se (n_lc (i_rng1 e_int) (gw_name pu7) t_yes (e_call (a_cons (e_var gt7) a_nil))))) (gw_name pu6) (t_of (e_op (o_notInD (da := PyData.str) dp_str (dp_ls dp_str)) (e_var gt6) (e_var gt2))) (e_var gt6))) so_none (so_some (e_var gt4)))) (g_name pu5))
  (s_ret (e_op (o_eqD (da := (fun (xs : (List Str)) => PyData.tuple (xs.map PyData.str))) (db := (fun (xs : (List Str)) => PyData.tuple (xs.map PyData.str))) (dp_tup dp_str) (dp_tup dp_str)) (e_call (a_cons (e_ca c_tupL (a_cons (e_var gt2) a_nil)) (a_cons (e_var gt4) a_nil))) (e_ca c_tupL (a_cons (e_var gt5) a_nil))))))))))) ?_
  exact h
theorem sc__law_refused : FnScope ["_law_dice_here", "_law_bad", "_law_few", "_law_row"] ["_law_dice_here"] (defScope (topS 33)) := ⟨rfl, rfl, rfl, by decide +kernel, rfl, by decide +kernel, by decide +kernel⟩
noncomputable def b__law_refused (ρ : (Unit × (Unit × (Unit × (Unit × Unit))))) : M (Ct Unit Unit Bool) := (M.thn (M.bind (M.bind (M.bind (M.bind (M.bind (M.ret ()) fun x326 => M.ret ((fun _ => PyData.none) x326)) fun x357 => M.bind (M.bind (M.bind (M.ret true) fun x327 => M.ret (PyData.bool x327)) fun x355 => M.bind (M.bind (M.bind (M.ret ("1" : Str)) fun x328 => M.ret (PyData.str x328)) fun x353 => M.bind (M.bind (M.bind (M.bind (M.ret (1 : Int)) fun x329 => M.ret (-x329)) fun x330 => M.ret (PyData.int x330)) fun x351 => M.bind (M.bind (M.bind (M.bind (M.ret (1 : Int)) fun x331 => M.bind (M.ret ()) fun x332 => M.ret (x331, x332)) fun x334 => M.ret ((fun (a : (Int × Unit)) => PyData.tuple ((fun (a : (Int × Unit)) => PyData.int a.1 :: (fun (_ : Unit) => ([] : List PyData)) a.2) a)) x334)) fun x349 => M.bind (M.bind (M.bind (M.bind (M.ret ()) fun _ => M.ret []) fun x335 => M.ret ((fun (xs : (List Int)) => PyData.list (xs.map PyData.int)) x335)) fun x347 => M.bind (M.bind (M.bind (M.ret ()) fun x336 => M.ret (PyData.dict [])) fun x345 => M.bind (M.bind (M.bind (M.bind (M.ret (10 : Int)) fun x337 => M.bind (M.ret (60 : Int)) fun x338 => M.need (CPow x337 x338) (M.ret (x337 ^ Int.toNat x338))) fun x339 => M.ret (PyData.int x339)) fun x343 => M.bind (M.bind (M.bind (M.ret (702 : Int)) fun x340 => M.ret (PyData.int x340)) fun x341 => M.bind (M.ret ()) fun x342 => M.ret (x341, x342)) fun x344 => M.ret (x343, x344)) fun x346 => M.ret (x345, x346)) fun x348 => M.ret (x347, x348)) fun x350 => M.ret (x349, x350)) fun x352 => M.ret (x351, x352)) fun x354 => M.ret (x353, x354)) fun x356 => M.ret (x355, x356)) fun x358 => M.ret (x357, x358)) fun r359 => M.ret [r359.1, r359.2.1, r359.2.2.1, r359.2.2.2.1, r359.2.2.2.2.1, r359.2.2.2.2.2.1, r359.2.2.2.2.2.2.1, r359.2.2.2.2.2.2.2.1, r359.2.2.2.2.2.2.2.2.1]) fun x360 => M.pick x360) fun x361 => M.ret (.nx (ρ.1, x361, ρ.2.2))) fun ρ => (M.thn (M.bind (M.bind (M.still (m__law_error ((fun ρ => (M.bind (M.bind (M.safe (M.bind (M.ret ρ.2.1) fun x362 => M.bind (M.ret ()) fun x363 => M.ret (x362, x363))) fun r364 => M.still (m_nth_name_X r364)) fun x365 => M.ret ())) ((), ρ.2.1, (), (), ρ.2.2.2.2)))) fun x371 => M.bind (M.bind (M.ret ("count " : Str)) fun x369 => M.bind (M.bind (M.bind (M.ret ρ.2.1) fun x366 => M.bind (M.ret ()) fun x367 => M.ret (x366, x367)) fun r368 => M.need ((r368.1.showable = true ∧ r368.1.hasDict = false ∧ r368.1.shown.length ≤ sizeLine ∧ r368.1.depth ≤ 64) ∨ r368.1 = PyData.dict []) (M.ret r368.1.shown)) fun x370 => M.need (Str.length x369 + Str.length x370 ≤ sizeLine) (M.ret (x369 ++ x370))) fun x372 => M.ret (!decide (x371 = x372))) fun x374 => M.ifb x374 (M.bind (M.ret false) fun x373 => M.ret (.rt x373)) (M.ret (.nx ρ))) fun ρ => (M.thn (M.bind (M.bind (M.bind (M.bind (M.bind (M.ret ()) fun x375 => M.ret ((fun _ => PyData.none) x375)) fun x403 => M.bind (M.bind (M.bind (M.ret true) fun x376 => M.ret (PyData.bool x376)) fun x401 => M.bind (M.bind (M.bind (M.ret ("1" : Str)) fun x377 => M.ret (PyData.str x377)) fun x399 => M.bind (M.bind (M.bind (M.bind (M.ret (1 : Int)) fun x378 => M.ret (-x378)) fun x379 => M.ret (PyData.int x379)) fun x397 => M.bind (M.bind (M.bind (M.ret (101 : Int)) fun x380 => M.ret (PyData.int x380)) fun x395 => M.bind (M.bind (M.bind (M.bind (M.ret (10 : Int)) fun x381 => M.bind (M.ret (60 : Int)) fun x382 => M.need (CPow x381 x382) (M.ret (x381 ^ Int.toNat x382))) fun x383 => M.ret (PyData.int x383)) fun x393 => M.bind (M.bind (M.bind (M.ret ()) fun x384 => M.ret ((fun (a : Unit) => PyData.tuple ((fun (_ : Unit) => ([] : List PyData)) a)) x384)) fun x391 => M.bind (M.bind (M.bind (M.bind (M.bind (M.ret (3 : Int)) fun x385 => M.bind (M.ret ()) fun x386 => M.ret (x385, x386)) fun r387 => M.ret [r387.1]) fun x388 => M.ret ((fun (xs : (List Int)) => PyData.list (xs.map PyData.int)) x388)) fun x389 => M.bind (M.ret ()) fun x390 => M.ret (x389, x390)) fun x392 => M.ret (x391, x392)) fun x394 => M.ret (x393, x394)) fun x396 => M.ret (x395, x396)) fun x398 => M.ret (x397, x398)) fun x400 => M.ret (x399, x400)) fun x402 => M.ret (x401, x402)) fun x404 => M.ret (x403, x404)) fun r405 => M.ret [r405.1, r405.2.1, r405.2.2.1, r405.2.2.2.1, r405.2.2.2.2.1, r405.2.2.2.2.2.1, r405.2.2.2.2.2.2.1, r405.2.2.2.2.2.2.2.1]) fun x406 => M.pick x406) fun x407 => M.ret (.nx (ρ.1, ρ.2.1, x407, ρ.2.2.2))) fun ρ => (M.thn (M.bind (M.bind (M.still (m__law_error ((fun ρ => (M.bind (M.bind (M.safe (M.bind (M.bind (M.bind (M.ret ("a" : Str)) fun x408 => M.bind (M.ret ()) fun x409 => M.ret (x408, x409)) fun x411 => M.ret ((fun (a : (Str × Unit)) => PyData.tuple ((fun (a : (Str × Unit)) => PyData.str a.1 :: (fun (_ : Unit) => ([] : List PyData)) a.2) a)) x411)) fun x414 => M.bind (M.bind (M.ret ρ.2.2.1) fun x412 => M.bind (M.ret ()) fun x413 => M.ret (x412, x413)) fun x415 => M.ret (x414, x415))) fun r416 => M.still (m_new_names_X r416)) fun x417 => M.ret ())) ((), (), ρ.2.2.1, (), ρ.2.2.2.2)))) fun x423 => M.bind (M.bind (M.ret ("count " : Str)) fun x421 => M.bind (M.bind (M.bind (M.ret ρ.2.2.1) fun x418 => M.bind (M.ret ()) fun x419 => M.ret (x418, x419)) fun r420 => M.need ((r420.1.showable = true ∧ r420.1.hasDict = false ∧ r420.1.shown.length ≤ sizeLine ∧ r420.1.depth ≤ 64) ∨ r420.1 = PyData.dict []) (M.ret r420.1.shown)) fun x422 => M.need (Str.length x421 + Str.length x422 ≤ sizeLine) (M.ret (x421 ++ x422))) fun x424 => M.ret (!decide (x423 = x424))) fun x426 => M.ifb x426 (M.bind (M.ret false) fun x425 => M.ret (.rt x425)) (M.ret (.nx ρ))) fun ρ => (M.thn (M.bind (M.bind (M.bind (M.bind (M.bind (M.ret ()) fun x427 => M.ret ((fun _ => PyData.none) x427)) fun x467 => M.bind (M.bind (M.bind (M.ret ("a" : Str)) fun x428 => M.ret (PyData.str x428)) fun x465 => M.bind (M.bind (M.bind (M.bind (M.bind (M.ret ("a" : Str)) fun x429 => M.bind (M.ret ()) fun x430 => M.ret (x429, x430)) fun r431 => M.ret [r431.1]) fun x432 => M.ret ((fun (xs : (List Str)) => PyData.list (xs.map PyData.str)) x432)) fun x463 => M.bind (M.bind (M.bind (M.bind (M.ret ("A" : Str)) fun x433 => M.bind (M.ret ()) fun x434 => M.ret (x433, x434)) fun x436 => M.ret ((fun (a : (Str × Unit)) => PyData.tuple ((fun (a : (Str × Unit)) => PyData.str a.1 :: (fun (_ : Unit) => ([] : List PyData)) a.2) a)) x436)) fun x461 => M.bind (M.bind (M.bind (M.bind (M.ret ("a" : Str)) fun x439 => M.bind (M.bind (M.ret (1 : Int)) fun x437 => M.bind (M.ret ()) fun x438 => M.ret (x437, x438)) fun x440 => M.ret (x439, x440)) fun x441 => M.ret ((fun (a : (Str × (Int × Unit))) => PyData.tuple ((fun (a : (Str × (Int × Unit))) => PyData.str a.1 :: (fun (a : (Int × Unit)) => PyData.int a.1 :: (fun (_ : Unit) => ([] : List PyData)) a.2) a.2) a)) x441)) fun x459 => M.bind (M.bind (M.bind (M.ret ()) fun x442 => M.ret (PyData.dict [])) fun x457 => M.bind (M.bind (M.bind (M.bind (M.bind (M.bind (M.ret ("a" : Str)) fun x443 => M.bind (M.ret ()) fun x444 => M.ret (x443, x444)) fun r445 => M.ret [r445.1]) fun x446 => M.bind (M.ret (201 : Int)) fun x447 => M.need (x446 ≠ [] ∧ 2 ≤ x447 ∧ x447 ≤ 1000 ∧ x446.length ≤ 1000) (M.ret (List.replicate (Int.toNat x447) x446).flatten)) fun x448 => M.ret ((fun (xs : (List Str)) => PyData.tuple (xs.map PyData.str)) x448)) fun x455 => M.bind (M.bind (M.bind (M.bind (M.ret ("" : Str)) fun x449 => M.bind (M.ret ()) fun x450 => M.ret (x449, x450)) fun x452 => M.ret ((fun (a : (Str × Unit)) => PyData.tuple ((fun (a : (Str × Unit)) => PyData.str a.1 :: (fun (_ : Unit) => ([] : List PyData)) a.2) a)) x452)) fun x453 => M.bind (M.ret ()) fun x454 => M.ret (x453, x454)) fun x456 => M.ret (x455, x456)) fun x458 => M.ret (x457, x458)) fun x460 => M.ret (x459, x460)) fun x462 => M.ret (x461, x462)) fun x464 => M.ret (x463, x464)) fun x466 => M.ret (x465, x466)) fun x468 => M.ret (x467, x468)) fun r469 => M.ret [r469.1, r469.2.1, r469.2.2.1, r469.2.2.2.1, r469.2.2.2.2.1, r469.2.2.2.2.2.1, r469.2.2.2.2.2.2.1, r469.2.2.2.2.2.2.2.1]) fun x470 => M.pick x470) fun x471 => M.ret (.nx (ρ.1, ρ.2.1, ρ.2.2.1, x471, ρ.2.2.2.2))) fun ρ => (M.thn (M.bind (M.bind (M.still (m__law_error ((fun ρ => (M.bind (M.bind (M.safe (M.bind (M.ret ρ.2.2.2.1) fun x474 => M.bind (M.bind (M.ret ρ.2.2.1) fun x472 => M.bind (M.ret ()) fun x473 => M.ret (x472, x473)) fun x475 => M.ret (x474, x475))) fun r476 => M.still (m_new_names_X r476)) fun x477 => M.ret ())) ((), (), ρ.2.2.1, ρ.2.2.2.1, ρ.2.2.2.2)))) fun x478 => M.bind (M.ret ("operation" : Str)) fun x479 => M.ret (!decide (x478 = x479))) fun x481 => M.ifb x481 (M.bind (M.ret false) fun x480 => M.ret (.rt x480)) (M.ret (.nx ρ))) fun ρ => (M.bind (M.bind (M.still (m__law_error ((fun ρ => (M.bind (M.bind (M.safe (M.bind (M.bind (M.bind (M.bind (M.bind (M.ret ("a" : Str)) fun x482 => M.bind (M.ret ()) fun x483 => M.ret (x482, x483)) fun r484 => M.ret [r484.1]) fun x485 => M.bind (M.ret (200 : Int)) fun x486 => M.need (x485 ≠ [] ∧ 2 ≤ x486 ∧ x486 ≤ 1000 ∧ x485.length ≤ 1000) (M.ret (List.replicate (Int.toNat x486) x485).flatten)) fun x487 => M.ret ((fun (xs : (List Str)) => PyData.tuple (xs.map PyData.str)) x487)) fun x491 => M.bind (M.bind (M.bind (M.ret (100 : Int)) fun x488 => M.ret (PyData.int x488)) fun x489 => M.bind (M.ret ()) fun x490 => M.ret (x489, x490)) fun x492 => M.ret (x491, x492))) fun r493 => M.still (m_new_names_X r493)) fun x494 => M.ret ())) ((), (), (), (), ρ.2.2.2.2)))) fun x495 => M.bind (M.ret ("fine" : Str)) fun x496 => M.ret (decide (x495 = x496))) fun x497 => M.ret (.rt x497))))))))
noncomputable def m__law_refused (a : Unit) : M Bool := M.fin (b__law_refused ((), ((), ((), ((), ())))))
theorem ok__law_refused (F : FunC K "_law_refused" "_law_refused" (topS 33) f fd 193) (bn : Binds K fd ["_law_dice_here"] []) {A_InvalidOperation : Addr} (G__law_pick : GD P w K mg base "_law_pick" 3 spPick) (R_nth_name : GR P w K mg base "nth_name" 5 (spOfF K mg flE (aCons (rDt K) aNil) rStr m_nth_name_X)) (T__law_error : GTh K mg "_law_error" "_law_call" (topS 27)) (TB__law_refused : LamX.TabB base mg 193 189) (Y_InvalidCount : GErr P K mg "InvalidCount" "value" A_InvalidCount) (fr : Free mg) (E_InvalidCount_InvalidCount : PySem.W.exmOne K (.ref A_InvalidCount) (.ref A_InvalidCount) = some true) (X_InvalidOperation : GX K mg "InvalidOperation" A_InvalidOperation) (E_InvalidOperation_InvalidCount : PySem.W.exmOne K (.ref A_InvalidOperation) (.ref A_InvalidCount) = some false) (E_InvalidOperation_InvalidOperation : PySem.W.exmOne K (.ref A_InvalidOperation) (.ref A_InvalidOperation) = some true) (R_new_names : GR P w K mg base "new_names" 6 (spOfF K mg flE (aCons (rDt K) (aCons (rDt K) aNil)) (rTup K rStr) m_new_names_X)) : FnG P w K mg base 11 f 1 (spOfDT aNil rBl m__law_refused) := by
  refine PF.FunC.okG F sc__law_refused bn (fun A outer s H vs Q hgd hr h => ⟨_, (pss_cons (ps_set (i := 1) sc__law_refused.nd rfl (by first | exact Or.inl rfl | exact Or.inr rfl) (pe_c1 G__law_pick (hr.mono (by decide)) (pa_cons (pv 0) (pa_cons (pe_lst (pa_cons pe_non (pa_cons pe_bl (pa_cons pe_str (pa_cons (pe_un un_neg pe_int) (pa_cons (pe_tup (pa_cons pe_int pa_nil)) (pa_cons (pe_lst pa_nil) (pa_cons pe_dnewK (pa_cons (pe_op op_pow pe_int pe_int) (pa_cons pe_int pa_nil)))))))))) pa_nil))))
  (pss_cons (ps_if (pt_cmpR op_ne (pe_lmT (k := 0) (Ng := ["_law_call", "e"]) (c := 193) (P := 189) T__law_error sc__law_error rfl (by first | exact Or.inl rfl | exact Or.inr (Or.inl rfl)) (gv__law_error Y_InvalidCount fr E_InvalidCount_InvalidCount X_InvalidOperation E_InvalidOperation_InvalidCount E_InvalidOperation_InvalidOperation hgd) TB__law_refused rfl (hr.mono (by decide)) (LamX.lamS_by (sc := defScope (topS 33)) (by decide +kernel)) (fun A outer s H E f c' hr => (pe_cX (takes_of rfl rfl rfl rfl) R_nth_name (hr.mono (by decide)) (pa_cons (pv 1) pa_nil)))) (pe_op op_add_str pe_str (pe_callB (call_reprE (have h := hgd; h) (have h := hu100 hr; h) : CallR _ (.builtin "repr") (rReprE K)) (by rfl) fr.b_repr (by decide +kernel) (pa_cons (pv 1) pa_nil))) (nomark _)) (pss_one (ps_ret pe_bl)) pss_nil)
  (pss_cons (ps_set (i := 2) sc__law_refused.nd rfl (by first | exact Or.inl rfl | exact Or.inr rfl) (pe_c1 G__law_pick (hr.mono (by decide)) (pa_cons (pv 0) (pa_cons (pe_lst (pa_cons pe_non (pa_cons pe_bl (pa_cons pe_str (pa_cons (pe_un un_neg pe_int) (pa_cons pe_int (pa_cons (pe_op op_pow pe_int pe_int) (pa_cons (pe_tup pa_nil) (pa_cons (pe_lst (pa_cons pe_int pa_nil)) pa_nil))))))))) pa_nil))))
  (pss_cons (ps_if (pt_cmpR op_ne (pe_lmT (k := 1) (Ng := ["_law_call", "e"]) (c := 193) (P := 189) T__law_error sc__law_error rfl (by first | exact Or.inl rfl | exact Or.inr (Or.inl rfl)) (gv__law_error Y_InvalidCount fr E_InvalidCount_InvalidCount X_InvalidOperation E_InvalidOperation_InvalidCount E_InvalidOperation_InvalidOperation hgd) TB__law_refused rfl (hr.mono (by decide)) (LamX.lamS_by (sc := defScope (topS 33)) (by decide +kernel)) (fun A outer s H E f c' hr => (pe_cX (takes_of rfl rfl rfl rfl) R_new_names (hr.mono (by decide)) (pa_cons (pe_tup (pa_cons pe_str pa_nil)) (pa_cons (pv 2) pa_nil))))) (pe_op op_add_str pe_str (pe_callB (call_reprE (have h := hgd; h) (have h := hu100 hr; h) : CallR _ (.builtin "repr") (rReprE K)) (by rfl) fr.b_repr (by decide +kernel) (pa_cons (pv 2) pa_nil))) (nomark _)) (pss_one (ps_ret pe_bl)) pss_nil)
  (pss_cons (ps_set (i := 3) sc__law_refused.nd rfl (by first | exact Or.inl rfl | exact Or.inr rfl) (pe_c1 G__law_pick (hr.mono (by decide)) (pa_cons (pv 0) (pa_cons (pe_lst (pa_cons pe_non (pa_cons pe_str (pa_cons (pe_lst (pa_cons pe_str pa_nil)) (pa_cons (pe_tup (pa_cons pe_str pa_nil)) (pa_cons (pe_tup (pa_cons pe_str (pa_cons pe_int pa_nil))) (pa_cons pe_dnewK (pa_cons (pe_op (op_repT : OpR _ _ (rRepT K)) (pe_tup (pa_cons pe_str pa_nil)) pe_int) (pa_cons (pe_tup (pa_cons pe_str pa_nil)) pa_nil))))))))) pa_nil))))
  (pss_cons (ps_if (pt_cmpR op_ne (pe_lmT (k := 1) (Ng := ["_law_call", "e"]) (c := 193) (P := 189) T__law_error sc__law_error rfl (by first | exact Or.inl rfl | exact Or.inr (Or.inl rfl)) (gv__law_error Y_InvalidCount fr E_InvalidCount_InvalidCount X_InvalidOperation E_InvalidOperation_InvalidCount E_InvalidOperation_InvalidOperation hgd) TB__law_refused rfl (hr.mono (by decide)) (LamX.lamS_by (sc := defScope (topS 33)) (by decide +kernel)) (fun A outer s H E f c' hr => (pe_cX (takes_of rfl rfl rfl rfl) R_new_names (hr.mono (by decide)) (pa_cons (pv 3) (pa_cons (pv 2) pa_nil))))) pe_str (nomark _)) (pss_one (ps_ret pe_bl)) pss_nil)
  (pss_one (ps_ret (pe_cmpR op_eq (pe_lmT (k := 1) (Ng := ["_law_call", "e"]) (c := 193) (P := 189) T__law_error sc__law_error rfl (by first | exact Or.inl rfl | exact Or.inr (Or.inl rfl)) (gv__law_error Y_InvalidCount fr E_InvalidCount_InvalidCount X_InvalidOperation E_InvalidOperation_InvalidCount E_InvalidOperation_InvalidOperation hgd) TB__law_refused rfl (hr.mono (by decide)) (LamX.lamS_by (sc := defScope (topS 33)) (by decide +kernel)) (fun A outer s H E f c' hr => (pe_cX (takes_of rfl rfl rfl rfl) R_new_names (hr.mono (by decide)) (pa_cons (pe_op (op_repT : OpR _ _ (rRepT K)) (pe_tup (pa_cons pe_str pa_nil)) pe_int) (pa_cons pe_int pa_nil))))) pe_str (nomark _)))))))))), ?_⟩)
  refine fn_bodyDT (X := E0) (S := aNil) (E' := eNil) (R := rBl) (stt_dice (stt_un (stt_un (stt_un stt_nil)))) rfl (s_seq (s_asg (e_pick get0 (SN.se (n_lst (hom_cons (hom_cons (hom_cons (hom_cons (hom_cons (hom_cons (hom_cons (hom_cons (hom_cons hom_nil))))))))) (a_cons (e_dat dp_non e_non) (a_cons (e_dat dp_bl e_bl) (a_cons (e_dat dp_str e_str) (a_cons (e_dat dp_int (e_un (u_ii fun _ => rfl) e_int)) (a_cons (e_dat (dp_tx (dpa_cons dp_int dpa_nil)) (e_tup (a_cons e_int a_nil) (le_n 1))) (a_cons (e_dat (dp_ls dp_int) (SN.se (n_lst hom_nil a_nil (le_n 0)))) (a_cons (e_d0Dt e_dnew) (a_cons (e_dat dp_int (e_op (o_iiC fun _ _ => rfl) e_int e_int)) (a_cons (e_dat dp_int e_int) a_nil))))))))) (le_n 9)))) (g_name pu1))
  (s_seq (s_if (t_of (e_op (o_ne sc_str) (e_lam (P := 189) (q := ((Str.ofString "_law_refused") ++ (Str.ofString ".<locals>.") ++ (Str.ofString "<lambda>"))) (R := rStr) (mw := m__law_error) (List.mem_cons_of_mem _ List.mem_cons_self) (by decide +kernel) (hasTS (hasTS (hasTS (hasTS hasT0)))) (plv_un (plv_val (plv_un (plv_un plv_tab)))) (fun XE => (se_any (e_callF (fun _ => rfl) (sa_safe (a_cons (e_var gt1) a_nil)))))) (e_op o_addS e_str (e_ca c_reprE (a_cons (e_var gt1) a_nil))))) (s_ret e_bl) s_nil)
  (s_seq (s_asg (e_pick get0 (SN.se (n_lst (hom_cons (hom_cons (hom_cons (hom_cons (hom_cons (hom_cons (hom_cons (hom_cons hom_nil)))))))) (a_cons (e_dat dp_non e_non) (a_cons (e_dat dp_bl e_bl) (a_cons (e_dat dp_str e_str) (a_cons (e_dat dp_int (e_un (u_ii fun _ => rfl) e_int)) (a_cons (e_dat dp_int e_int) (a_cons (e_dat dp_int (e_op (o_iiC fun _ _ => rfl) e_int e_int)) (a_cons (e_dat (dp_tx dpa_nil) (e_tup a_nil (le_n 0))) (a_cons (e_dat (dp_ls dp_int) (SN.se (n_lst (hom_cons hom_nil) (a_cons e_int a_nil) (le_n 1)))) a_nil)))))))) (le_n 8)))) (g_name pu2))
  (s_seq (s_if (t_of (e_op (o_ne sc_str) (e_lam (P := 189) (q := ((Str.ofString "_law_refused") ++ (Str.ofString ".<locals>.") ++ (Str.ofString "<lambda>"))) (R := rStr) (mw := m__law_error) (List.mem_cons_of_mem _ List.mem_cons_self) (by decide +kernel) (hasTS (hasTS (hasTS (hasTS hasT0)))) (plv_un (plv_un (plv_val (plv_un plv_tab)))) (fun XE => (se_any (e_callF (fun _ => rfl) (sa_safe (a_cons (e_dat (dp_tx (dpa_cons dp_str dpa_nil)) (e_tup (a_cons e_str a_nil) (le_n 1))) (a_cons (e_var gt2) a_nil))))))) (e_op o_addS e_str (e_ca c_reprE (a_cons (e_var gt2) a_nil))))) (s_ret e_bl) s_nil)
  (s_seq (s_asg (e_pick get0 (SN.se (n_lst (hom_cons (hom_cons (hom_cons (hom_cons (hom_cons (hom_cons (hom_cons (hom_cons hom_nil)))))))) (a_cons (e_dat dp_non e_non) (a_cons (e_dat dp_str e_str) (a_cons (e_dat (dp_ls dp_str) (SN.se (n_lst (hom_cons hom_nil) (a_cons e_str a_nil) (le_n 1)))) (a_cons (e_dat (dp_tx (dpa_cons dp_str dpa_nil)) (e_tup (a_cons e_str a_nil) (le_n 1))) (a_cons (e_dat (dp_tx (dpa_cons dp_str (dpa_cons dp_int dpa_nil))) (e_tup (a_cons e_str (a_cons e_int a_nil)) (le_n 2))) (a_cons (e_d0Dt e_dnew) (a_cons (e_dat (dp_tup dp_str) (e_op o_repT (e_tupH (hom_cons hom_nil) (a_cons e_str a_nil) (le_n 1)) e_int)) (a_cons (e_dat (dp_tx (dpa_cons dp_str dpa_nil)) (e_tup (a_cons e_str a_nil) (le_n 1))) a_nil)))))))) (le_n 8)))) (g_name pu3))
  (s_seq (s_if (t_of (e_op (o_ne sc_str) (e_lam (P := 189) (q := ((Str.ofString "_law_refused") ++ (Str.ofString ".<locals>.") ++ (Str.ofString "<lambda>"))) (R := rStr) (mw := m__law_error) (List.mem_cons_of_mem _ List.mem_cons_self) (by decide +kernel) (hasTS (hasTS (hasTS (hasTS hasT0)))) (plv_un (plv_un (plv_val (plv_val plv_tab)))) (fun XE => (se_any (e_callF (fun _ => rfl) (sa_safe (a_cons (e_var gt3) (a_cons (e_var gt2) a_nil))))))) e_str)) (s_ret e_bl) s_nil)
  (s_ret (e_op (o_eq sc_str) (e_lam (P := 189) (q := ((Str.ofString "_law_refused") ++ (Str.ofString ".<locals>.") ++ (Str.ofString "<lambda>"))) (R := rStr) (mw := m__law_error) (List.mem_cons_of_mem _ List.mem_cons_self) (by decide +kernel) (hasTS (hasTS (hasTS (hasTS hasT0)))) (plv_un (plv_un (plv_un (plv_un plv_tab)))) (fun XE => (se_any (e_callF (fun _ => rfl) (sa_safe (a_cons (e_dat (dp_tup dp_str) (e_op o_repT (e_tupH (hom_cons hom_nil) (a_cons e_str a_nil) (le_n 1)) e_int)) (a_cons (e_dat dp_int e_int) a_nil))))))) e_str)))))))) ?_
  exact h
end
section
variable {P : Program} {w : World} {K : PySem.W.Frag} {mg : Str → Option Value} {base : Heap} {f CO CN CF CE : Addr} {fd : FuncData}
theorem sc_law : FnScope ["_law_script", "_law_spot", "_law_dice_here"] ["_law_script"] (defScope (topS 34)) := ⟨rfl, rfl, rfl, by decide +kernel, rfl, by decide +kernel, by decide +kernel⟩
noncomputable def b_law (ρ : (Unit × (Unit × (Unit × Unit)))) : M (Ct Unit Unit Bool) := (M.bind (M.bind (M.bind (M.bind (M.bind (M.bind (M.ret (60 : Int)) fun x9 => M.ret (PyData.int x9)) fun x19 => M.bind (M.bind (M.bind (M.ret (8 : Int)) fun x10 => M.ret (PyData.int x10)) fun x17 => M.bind (M.bind (M.bind (M.bind (M.bind (M.ret (701 : Int)) fun x1 => M.bind (M.ret ()) fun x2 => M.ret (x1, x2)) fun r3 => M.still (m_nth_name r3)) fun x11 => M.ret (PyData.str x11)) fun x15 => M.bind (M.bind (M.bind (M.bind (M.bind (M.bind (M.ret ([] : (List Str))) fun x => M.need (x.length ≤ sizeLine) (M.ret x)) fun x6 => M.bind (M.bind (M.ret (0 : Int)) fun x4 => M.bind (M.ret ()) fun x5 => M.ret (x4, x5)) fun x7 => M.ret (x6, x7)) fun r8 => M.still (m_new_names r8)) fun x12 => M.ret ((fun (xs : (List Str)) => PyData.tuple (xs.map PyData.str)) x12)) fun x13 => M.bind (M.ret ()) fun x14 => M.ret (x13, x14)) fun x16 => M.ret (x15, x16)) fun x18 => M.ret (x17, x18)) fun x20 => M.ret (x19, x20)) fun r21 => M.ret [r21.1, r21.2.1, r21.2.2.1, r21.2.2.2.1]) fun x35 => M.need (x35.all ndD = true) (M.ret (PyData.list x35))) fun x37 => M.bind (M.bind (M.bind (M.bind (M.bind (M.ret (60 : Int)) fun x22 => M.ret (PyData.int x22)) fun x32 => M.bind (M.bind (M.bind (M.ret (8 : Int)) fun x23 => M.ret (PyData.int x23)) fun x30 => M.bind (M.bind (M.bind (M.ret ("zz" : Str)) fun x24 => M.ret (PyData.str x24)) fun x28 => M.bind (M.bind (M.bind (M.ret ()) fun x25 => M.ret ((fun (a : Unit) => PyData.tuple ((fun (_ : Unit) => ([] : List PyData)) a)) x25)) fun x26 => M.bind (M.ret ()) fun x27 => M.ret (x26, x27)) fun x29 => M.ret (x28, x29)) fun x31 => M.ret (x30, x31)) fun x33 => M.ret (x32, x33)) fun r34 => M.ret [r34.1, r34.2.1, r34.2.2.1, r34.2.2.2.1]) fun x36 => M.need (x36.all ndD = true) (M.ret (PyData.list x36))) fun x38 => M.need ((x37.canLay0 = true ∧ x37.depth ≤ 64) ∧ (x38.canLay0 = true ∧ x38.depth ≤ 64)) (M.ret (PyData.eqv x37 x38))) fun x39 => M.ret (.rt x39))
noncomputable def m_law : M Bool := M.fin (b_law ((), ((), ((), ()))))
noncomputable def b_lawB (ρ : ((List Int) × (Unit × (Unit × Unit)))) : M (Ct ((List Int) × (Unit × (Unit × Unit))) Unit Bool) := (M.thn (M.bind (M.bind (M.bind (M.bind (M.ret ()) fun r40 => m__law_judged r40) fun x41 => M.ret (!x41)) fun x47 => M.ifb x47 (M.ret true) (M.bind (M.bind (M.bind (M.ret ()) fun r42 => m__law_listed r42) fun x43 => M.ret (!x43)) fun x46 => M.ifb x46 (M.ret true) (M.bind (M.bind (M.ret ()) fun r44 => m__law_refused r44) fun x45 => M.ret (!x45)))) fun x49 => M.ifb x49 (M.bind (M.ret false) fun x48 => M.ret (.rt x48)) (M.ret (.nx ρ))) fun ρ => M.ret (.nx (ρ.1, ρ.2.1, (), ρ.2.2.2)))
end
end PF2
set_option maxHeartbeats 400000
namespace PF
open PySem PySem.Spec PyProof.Rows L2 SlX
namespace M
section
variable {α : Type} {c : Nat} {Q : α → Nat → Prop} {X : Er → Prop}
theorem safe_W {m : M α} : W (M.safe m) c Q X = W m c Q (fun _ => False) := id rfl
theorem raise_W {e : Er} : W (M.raise e : M α) c Q X = X e := id rfl
theorem tryM_W {m : M α} {h : Er → M α} : W (M.tryM m h) c Q X = W m c Q (fun e => W (h e) c Q X) := id rfl
theorem byE_W {ys ns : List Str} {m : M α} {n : Er → M α} {e : Er} : W (M.byE ys ns m n e) c Q X = ((e.cls ∈ ys ∧ W m c Q X) ∨ (e.cls ∈ ns ∧ W (n e) c Q X)) := id rfl
end
end M
end PF
set_option maxHeartbeats 1000000
namespace PF2
open PF PySem PySem.Spec PyProof.Rows L2 SlX
def intD : PyData → Bool
  | .int i => decide (-1000000000000000000000000000000000000000000000000000000000000 < i) && decide (i < 1000000000000000000000000000000000000000000000000000000000000)
  | _ => false
def cntD (a b : Int) : PyData → Bool
  | .int i => intD (.int i) && (decide (a ≤ i) && decide (i ≤ b))
  | _ => false
section
variable {c : Nat} {X : Er → Prop} {d : PyData} {a b : Int}
theorem w_is_integer_D {Q : Bool → Nat → Prop} (q : Q (intD d) c) : M.W (m_is_integer_D (d, ())) c Q X := by
  simp only [m_is_integer_D, b_is_integer_D, m_is_whole_D, b_is_whole_D, M.to_W, M.none_W, M.bind_W, M.ret_W, M.need_W, M.the_W, M.ifb_W, M.anyOf_W, M.still_W, M.roll_W, M.pick_W, M.thn_W, M.thn_nx, M.thn_rt, M.thn_bk, M.thn_ct, M.fin_W, M.fin_rt, M.finN_W, M.finN_rt, M.finN_nx, M.FK_nx, M.FK_ct, M.FK_bk, M.FK_rt, decide_eq_true_eq, if_true, if_false, Bool.false_eq_true, Bool.not_eq_true', decide_eq_false_iff_not, Bool.not_true, Bool.not_false, ite_not]
  cases d with
  | int i =>
    refine (if_pos rfl).mpr ?_
    refine (if_pos rfl).mpr ?_
    refine ⟨i, rfl, ?_⟩
    have q : Q (decide (-1000000000000000000000000000000000000000000000000000000000000 < i) && decide (i < 1000000000000000000000000000000000000000000000000000000000000)) c := q
    by_cases h : (-1000000000000000000000000000000000000000000000000000000000000 : Int) < i
    · rw [decide_eq_true h, Bool.true_and] at q
      exact (if_pos h).mpr q
    · rw [decide_eq_false h, Bool.false_and] at q
      exact (if_neg h).mpr q
  | bool b => exact (if_pos rfl).mpr ((if_neg (by simp [isD, tyD])).mpr q)
  | _ => exact (if_neg (by simp [isD, tyD])).mpr q
theorem w_count_X {Q : Unit → Nat → Prop} (no : cntD a b d = false → X ⟨"InvalidCount", d⟩) (yes : cntD a b d = true → Q () c) : M.W (m_require_count_X (d, a, b, ())) c Q X := by
  simp only [m_require_count_X, b_require_count_X, M.to_W, M.none_W, M.bind_W, M.ret_W, M.need_W, M.the_W, M.ifb_W, M.anyOf_W, M.still_W, M.roll_W, M.pick_W, M.thn_W, M.thn_nx, M.thn_rt, M.thn_bk, M.thn_ct, M.fin_W, M.fin_rt, M.finN_W, M.finN_rt, M.finN_nx, M.FK_nx, M.FK_ct, M.FK_bk, M.FK_rt, decide_eq_true_eq, if_true, if_false, Bool.false_eq_true, Bool.not_eq_true', decide_eq_false_iff_not, Bool.not_true, Bool.not_false, ite_not, M.safe_W, M.raise_W, id_eq]
  refine w_is_integer_D ?_
  cases d with
  | int i =>
    have no : (intD (.int i) && (decide (a ≤ i) && decide (i ≤ b))) = false → X ⟨"InvalidCount", .int i⟩ := no
    have yes : (intD (.int i) && (decide (a ≤ i) && decide (i ≤ b))) = true → Q () c := yes
    cases hi : intD (.int i) with
    | false =>
      rw [hi, Bool.false_and] at no
      exact (if_pos rfl).mpr (by simpa using no rfl)
    | true =>
      rw [hi, Bool.true_and] at no yes
      refine (if_neg (by simp)).mpr ⟨i, rfl, ?_⟩
      by_cases h1 : a ≤ i
      · by_cases h2 : i ≤ b
        · have y := yes (by rw [decide_eq_true h1, decide_eq_true h2]; rfl)
          simpa [h1, h2] using y
        · have n := no (by rw [decide_eq_true h1, decide_eq_false h2]; rfl)
          simpa [h1, h2] using n
      · have n := no (by rw [decide_eq_false h1]; rfl)
        simpa [h1] using n
  | _ => exact (if_pos rfl).mpr (by simpa using no rfl)
end
def LET : Str := "abcdefghijklmnopqrstuvwxyz"
def wdB (x : Str) : Bool := (decide ((1 : Int) ≤ (x.length : Int)) && decide ((x.length : Int) ≤ 8)) && (PF.signs x).all fun s => inStr s LET
def namD : PyData → Bool
  | .str x => wdB x
  | _ => false
def nmsD : PyData → Bool
  | .tuple ds => ds.all namD
  | _ => false
def cnt0D : PyData → Bool
  | .int i => intD (.int i) && decide (0 ≤ i)
  | _ => false
theorem signs_len (x : Str) : (PF.signs x).length = x.length := by
  unfold PF.signs
  rw [List.length_map, Array.length_toList]; rfl
theorem sizeL {n : Nat} (h : n ≤ 1000000) : n ≤ sizeLine := by rw [sizeLine_eq]; omega
theorem sizeLt {n : Nat} (h : n ≤ 1000000) : n < sizeLine := by rw [sizeLine_eq]; omega
def shD : PyData → Prop
  | .str x => x.length ≤ 1000
  | _ => True
section
variable {c : Nat} {X : Er → Prop} {d : PyData} {x : Str}
theorem w_letters {x : Str} {Q : Bool → Nat → Prop} (f : Str → M (Option Bool)) (hf : ∀ s, f s = ((M.ret true).bind fun b => M.ifb b (((M.ret s).bind fun x => (M.ret LET).bind fun y => M.ret (inStr x y)).bind fun y => M.ret (some y)) (M.ret none))) (q : Q ((PF.signs x).all fun s => inStr s LET) c) : (M.lcM (PF.signs x) f).W c (fun a d => Q (a.all id) d) X := by
  refine M.lcM_map (g := fun s => inStr s LET) (fun a ha Q q => ?_) ?_
  · rw [hf]; exact q
  · rw [List.all_map]
    exact q
theorem w_is_name (hl : x.length ≤ 1000) {Q : Bool → Nat → Prop} (q : Q (wdB x) c) : M.W (m_is_name (x, ())) c Q X := by
  simp only [m_is_name, b_is_name, M.to_W, M.none_W, M.bind_W, M.ret_W, M.need_W, M.the_W, M.ifb_W, M.anyOf_W, M.still_W, M.roll_W, M.pick_W, M.thn_W, M.thn_nx, M.thn_rt, M.thn_bk, M.thn_ct, M.fin_W, M.fin_rt, M.finN_W, M.finN_rt, M.finN_nx, M.FK_nx, M.FK_ct, M.FK_bk, M.FK_rt, decide_eq_true_eq, if_true, if_false, Bool.false_eq_true, Bool.not_eq_true', decide_eq_false_iff_not, Bool.not_true, Bool.not_false, ite_not]
  unfold wdB at q
  refine (if_neg (by simp)).mpr ⟨sizeL (by omega), ?_⟩
  by_cases h1 : (1 : Int) ≤ (x.length : Int)
  · rw [if_pos h1]
    by_cases h2 : (x.length : Int) ≤ 8
    · rw [if_pos h2]
      rw [decide_eq_true h1, decide_eq_true h2, Bool.true_and, Bool.true_and] at q
      exact ⟨by rw [signs_len]; omega, w_letters _ (fun _ => rfl) q⟩
    · rw [if_neg h2]
      rw [decide_eq_false h2, Bool.and_false, Bool.false_and] at q
      exact q
  · rw [if_neg h1]
    rw [decide_eq_false h1, Bool.false_and, Bool.false_and] at q
    exact q
theorem w_is_name_D (hl : shD d) {Q : Bool → Nat → Prop} (q : Q (namD d) c) : M.W (m_is_name_D (d, ())) c Q X := by
  simp only [m_is_name_D, b_is_name_D, M.to_W, M.none_W, M.bind_W, M.ret_W, M.need_W, M.the_W, M.ifb_W, M.anyOf_W, M.still_W, M.roll_W, M.pick_W, M.thn_W, M.thn_nx, M.thn_rt, M.thn_bk, M.thn_ct, M.fin_W, M.fin_rt, M.finN_W, M.finN_rt, M.finN_nx, M.FK_nx, M.FK_ct, M.FK_bk, M.FK_rt, decide_eq_true_eq, if_true, if_false, Bool.false_eq_true, Bool.not_eq_true', decide_eq_false_iff_not, Bool.not_true, Bool.not_false, ite_not]
  cases d with
  | str x =>
    have hl : x.length ≤ 1000 := hl
    have q : Q (wdB x) c := q
    unfold wdB at q
    refine (if_neg (by simp [isD, tyD])).mpr ⟨x, rfl, sizeL (by omega), ?_⟩
    by_cases h1 : (1 : Int) ≤ (x.length : Int)
    · rw [if_pos h1]
      by_cases h2 : (x.length : Int) ≤ 8
      · rw [if_pos h2]
        rw [decide_eq_true h1, decide_eq_true h2, Bool.true_and, Bool.true_and] at q
        exact ⟨x, rfl, by rw [signs_len]; omega, w_letters _ (fun _ => rfl) q⟩
      · rw [if_neg h2]
        rw [decide_eq_false h2, Bool.and_false, Bool.false_and] at q
        exact q
    · rw [if_neg h1]
      rw [decide_eq_false h1, Bool.false_and, Bool.false_and] at q
      exact q
  | _ => exact (if_pos (by simp [isD, tyD])).mpr q
theorem w_is_count_D {Q : Bool → Nat → Prop} (q : Q (cnt0D d) c) : M.W (m_is_count_D (d, ())) c Q X := by
  simp only [m_is_count_D, b_is_count_D, M.to_W, M.none_W, M.bind_W, M.ret_W, M.need_W, M.the_W, M.ifb_W, M.anyOf_W, M.still_W, M.roll_W, M.pick_W, M.thn_W, M.thn_nx, M.thn_rt, M.thn_bk, M.thn_ct, M.fin_W, M.fin_rt, M.finN_W, M.finN_rt, M.finN_nx, M.FK_nx, M.FK_ct, M.FK_bk, M.FK_rt, decide_eq_true_eq, if_true, if_false, Bool.false_eq_true, Bool.not_eq_true', decide_eq_false_iff_not, Bool.not_true, Bool.not_false, ite_not]
  refine w_is_integer_D ?_
  cases d with
  | int i =>
    have q : Q (intD (.int i) && decide (0 ≤ i)) c := q
    cases hi : intD (.int i) with
    | false =>
      rw [hi, Bool.false_and] at q
      exact (if_neg (by simp)).mpr q
    | true =>
      rw [hi, Bool.true_and] at q
      exact (if_pos rfl).mpr ⟨i, rfl, q⟩
  | _ => exact (if_neg (by simp [intD])).mpr q
theorem w_are_names {ns : List Str} (hl : ∀ x ∈ ns, x.length ≤ 1000) (hn : ns.length ≤ 1000) {Q : Bool → Nat → Prop} (q : Q (ns.all wdB) c) : M.W (m_are_names (ns, ())) c Q X := by
  simp only [m_are_names, b_are_names, M.to_W, M.none_W, M.bind_W, M.ret_W, M.need_W, M.the_W, M.ifb_W, M.anyOf_W, M.still_W, M.roll_W, M.pick_W, M.thn_W, M.thn_nx, M.thn_rt, M.thn_bk, M.thn_ct, M.fin_W, M.fin_rt, M.finN_W, M.finN_rt, M.finN_nx, M.FK_nx, M.FK_ct, M.FK_bk, M.FK_rt, decide_eq_true_eq, if_true, if_false, Bool.false_eq_true, Bool.not_eq_true', decide_eq_false_iff_not, Bool.not_true, Bool.not_false, ite_not]
  refine ⟨by omega, M.lcM_map (g := fun x => wdB x) (fun x hx Q q => ?_) ?_⟩
  · simp only [M.to_W, M.none_W, M.bind_W, M.ret_W, M.need_W, M.the_W, M.ifb_W, M.anyOf_W, M.still_W, M.roll_W, M.pick_W, M.thn_W, M.thn_nx, M.thn_rt, M.thn_bk, M.thn_ct, M.fin_W, M.fin_rt, M.finN_W, M.finN_rt, M.finN_nx, M.FK_nx, M.FK_ct, M.FK_bk, M.FK_rt, decide_eq_true_eq, if_true, if_false, Bool.false_eq_true, Bool.not_eq_true', decide_eq_false_iff_not, Bool.not_true, Bool.not_false, ite_not]
    exact w_is_name (hl x hx) q
  · rw [List.all_map]
    exact q
theorem w_are_names_D (hl : ∀ ds, d = .tuple ds → ds.length ≤ 1000 ∧ ∀ z ∈ ds, shD z) {Q : Bool → Nat → Prop} (q : Q (nmsD d) c) : M.W (m_are_names_D (d, ())) c Q X := by
  simp only [m_are_names_D, b_are_names_D, M.to_W, M.none_W, M.bind_W, M.ret_W, M.need_W, M.the_W, M.ifb_W, M.anyOf_W, M.still_W, M.roll_W, M.pick_W, M.thn_W, M.thn_nx, M.thn_rt, M.thn_bk, M.thn_ct, M.fin_W, M.fin_rt, M.finN_W, M.finN_rt, M.finN_nx, M.FK_nx, M.FK_ct, M.FK_bk, M.FK_rt, decide_eq_true_eq, if_true, if_false, Bool.false_eq_true, Bool.not_eq_true', decide_eq_false_iff_not, Bool.not_true, Bool.not_false, ite_not]
  cases d with
  | tuple ds =>
    obtain ⟨h1, h2⟩ := hl ds rfl
    refine (if_pos (show isD "tuple" (.tuple ds) = true from rfl)).mpr ⟨ds, rfl, by omega, M.lcM_map (g := fun x => namD x) (fun x hx Q q => ?_) ?_⟩
    · simp only [M.to_W, M.none_W, M.bind_W, M.ret_W, M.need_W, M.the_W, M.ifb_W, M.anyOf_W, M.still_W, M.roll_W, M.pick_W, M.thn_W, M.thn_nx, M.thn_rt, M.thn_bk, M.thn_ct, M.fin_W, M.fin_rt, M.finN_W, M.finN_rt, M.finN_nx, M.FK_nx, M.FK_ct, M.FK_bk, M.FK_rt, decide_eq_true_eq, if_true, if_false, Bool.false_eq_true, Bool.not_eq_true', decide_eq_false_iff_not, Bool.not_true, Bool.not_false, ite_not]
      exact w_is_name_D (h2 x hx) q
    · rw [List.all_map]
      exact q
  | _ => exact (if_neg (by simp [isD, tyD])).mpr q
end
def LT0 : List Nat := LET.cps.toList
def nthS (i : Nat) : Str := if i < 26 then (⟨#[LT0.getD i 0]⟩ : Str) else (⟨#[LT0.getD ((i - 26) / 26) 0]⟩ : Str) ++ (⟨#[LT0.getD ((i - 26) % 26) 0]⟩ : Str)
theorem let_key : ∀ L : Str, L = "abcdefghijklmnopqrstuvwxyz" → L.length = 26 ∧ L.cps.toList = LT0 ∧ LT0.length = 26 := fun L e => by
  subst e
  exact ⟨by decide +kernel, rfl, by decide +kernel⟩
def NT : List Str := (List.range 300).map nthS
theorem nt_nd : NT.Nodup := by decide +kernel
theorem nthS_wd : ∀ i, i < 702 → wdB (nthS i) = true := by decide +kernel
theorem nthS_ok : ∀ i, i < 702 → PyData.strOk (nthS i) = true := by decide +kernel
theorem nt_at {i : Nat} (h : i < 300) : NT[i]? = some (nthS i) := by
  unfold NT
  rw [List.getElem?_map, List.getElem?_range h]; rfl
section
variable {c : Nat} {X : Er → Prop} {d : PyData} {x : Str} {a b i : Int}
theorem w_require_count {m : M Unit} (em : m_require_count (i, a, b, ()) = m) (h : cntD a b (.int i) = true) {Q : Unit → Nat → Prop} (q : Q () c) : M.W m c Q X := by
  rw [← em]
  simp only [m_require_count, b_require_count, M.to_W, M.none_W, M.bind_W, M.ret_W, M.need_W, M.the_W, M.ifb_W, M.anyOf_W, M.still_W, M.roll_W, M.pick_W, M.thn_W, M.thn_nx, M.thn_rt, M.thn_bk, M.thn_ct, M.fin_W, M.fin_rt, M.finN_W, M.finN_rt, M.finN_nx, M.FK_nx, M.FK_ct, M.FK_bk, M.FK_rt, decide_eq_true_eq, if_true, if_false, Bool.false_eq_true, Bool.not_eq_true', decide_eq_false_iff_not, Bool.not_true, Bool.not_false, ite_not]
  refine w_is_integer_D ?_
  have h : (intD (.int i) && (decide (a ≤ i) && decide (i ≤ b))) = true := h
  rw [Bool.and_eq_true, Bool.and_eq_true, decide_eq_true_eq, decide_eq_true_eq] at h
  rw [h.1, if_pos h.2.1, if_pos h.2.2]
  exact (if_neg (by simp)).mpr q
theorem cnt_ok {i b : Int} (h0 : 0 ≤ i) (h1 : i ≤ b) (hb : b ≤ 1000) : cntD 0 b (.int i) = true := by
  have e1 : (-1000000000000000000000000000000000000000000000000000000000000 : Int) < i := by omega
  have e2 : i < 1000000000000000000000000000000000000000000000000000000000000 := by omega
  unfold cntD intD
  simp only [h0, h1, e1, e2, decide_true, Bool.and_self]
theorem lt_at {L : List Nat} (hL : L = LT0) (h26 : LT0.length = 26) {j : Nat} (hj : j < 26) : atI L (j : Int) = some (LT0.getD j 0) := by
  subst hL
  refine L2.atI_nat ?_
  rw [List.getD_eq_getElem?_getD, List.getElem?_eq_getElem (by omega)]; rfl
theorem one_len {z : Nat} : (⟨#[z]⟩ : Str).length = 1 := rfl
theorem w_nth_name {i : Nat} {Q : Str → Nat → Prop} {m : M Str} (em : m_nth_name ((i : Int), ()) = m) (h : i < 702) (q : Q (nthS i) c) : M.W m c Q X := by
  rw [← em]
  have hs : sizeLine = 16777216 := sizeLine_eq
  have er := fun (i lo hi : Int) (c : Nat) (Q : Unit → Nat → Prop) (m : M Unit) => w_require_count (i := i) (a := lo) (b := hi) (c := c) (X := X) (Q := Q) (m := m)
  simp only [m_nth_name, b_nth_name, M.to_W, M.none_W, M.bind_W, M.ret_W, M.need_W, M.the_W, M.ifb_W, M.anyOf_W, M.still_W, M.roll_W, M.pick_W, M.thn_W, M.thn_nx, M.thn_rt, M.thn_bk, M.thn_ct, M.fin_W, M.fin_rt, M.finN_W, M.finN_rt, M.finN_nx, M.FK_nx, M.FK_ct, M.FK_bk, M.FK_rt, decide_eq_true_eq, if_true, if_false, Bool.false_eq_true, Bool.not_eq_true', decide_eq_false_iff_not, Bool.not_true, Bool.not_false, ite_not]
  generalize m_require_count = mr at *
  generalize eL : ("abcdefghijklmnopqrstuvwxyz" : Str) = L
  obtain ⟨k1, k2, k3⟩ := let_key L eL.symm
  refine er _ _ _ _ _ _ rfl (cnt_ok (b := 701) (by omega) (by omega) (by decide)) ?_
  unfold nthS at q
  rw [k1, hs]
  by_cases z : i < 26
  · rw [if_pos z] at q
    exact ⟨by omega, (if_pos (by omega)).mpr ⟨by omega, _, lt_at k2 k3 z, q⟩⟩
  · rw [if_neg z] at q
    have e1 : ((i : Int) - (26 : Nat)) / (26 : Nat) = (((i - 26) / 26 : Nat) : Int) := by omega
    have e2 : ((i : Int) - (26 : Nat)) % (26 : Nat) = (((i - 26) % 26 : Nat) : Int) := by omega
    refine ⟨by omega, (if_neg (by omega)).mpr ⟨by omega, by omega, ⟨by omega, by omega⟩, by omega, _, ?_, by omega, _, ?_, by rw [one_len, one_len]; omega, q⟩⟩
    · rw [e1]; exact lt_at k2 k3 (by omega)
    · rw [e2]; exact lt_at k2 k3 (by omega)
theorem w_nth_name_X {Q : Str → Nat → Prop} {m : M Str} (em : m_nth_name_X (d, ()) = m) (no : cntD 0 701 d = false → X ⟨"InvalidCount", d⟩) (yes : ∀ i : Nat, i < 702 → d = .int i → Q (nthS i) c) : M.W m c Q X := by
  rw [← em]
  have hs : sizeLine = 16777216 := sizeLine_eq
  simp only [m_nth_name_X, b_nth_name_X, M.to_W, M.none_W, M.bind_W, M.ret_W, M.need_W, M.the_W, M.ifb_W, M.anyOf_W, M.still_W, M.roll_W, M.pick_W, M.thn_W, M.thn_nx, M.thn_rt, M.thn_bk, M.thn_ct, M.fin_W, M.fin_rt, M.finN_W, M.finN_rt, M.finN_nx, M.FK_nx, M.FK_ct, M.FK_bk, M.FK_rt, decide_eq_true_eq, if_true, if_false, Bool.false_eq_true, Bool.not_eq_true', decide_eq_false_iff_not, Bool.not_true, Bool.not_false, ite_not, M.safe_W]
  generalize eL : ("abcdefghijklmnopqrstuvwxyz" : Str) = L
  obtain ⟨k1, k2, k3⟩ := let_key L eL.symm
  refine w_count_X no fun y => ?_
  cases d with
  | int j =>
    have y : (intD (.int j) && (decide (0 ≤ j) && decide (j ≤ 701))) = true := y
    rw [Bool.and_eq_true, Bool.and_eq_true, decide_eq_true_eq, decide_eq_true_eq] at y
    obtain ⟨_, y1, y2⟩ := y
    obtain ⟨i, rfl⟩ := Int.eq_ofNat_of_zero_le y1
    have q := yes i (by omega) rfl
    unfold nthS at q
    rw [k1, hs]
    refine ⟨_, rfl, by omega, ?_⟩
    by_cases z : i < 26
    · rw [if_pos z] at q
      exact (if_pos (by omega)).mpr ⟨_, rfl, by omega, _, lt_at k2 k3 z, q⟩
    · rw [if_neg z] at q
      have e1 : ((i : Int) - (26 : Nat)) / (26 : Nat) = (((i - 26) / 26 : Nat) : Int) := by omega
      have e2 : ((i : Int) - (26 : Nat)) % (26 : Nat) = (((i - 26) % 26 : Nat) : Int) := by omega
      refine (if_neg (by omega)).mpr ⟨_, rfl, by omega, by omega, ⟨by omega, by omega⟩, by omega, _, ?_, by omega, _, ?_, by rw [one_len, one_len]; omega, q⟩
      · rw [e1]; exact lt_at k2 k3 (by omega)
      · rw [e2]; exact lt_at k2 k3 (by omega)
  | _ => cases y
theorem w_lnth {i : Nat} {Q : Str → Nat → Prop} {m : M Str} (em : m__law_nth ((i : Int), ()) = m) (h : i < 702) (q : Q (nthS i) c) : M.W m c Q X := by
  rw [← em]
  have hs : sizeLine = 16777216 := sizeLine_eq
  simp only [m__law_nth, b__law_nth, M.to_W, M.none_W, M.bind_W, M.ret_W, M.need_W, M.the_W, M.ifb_W, M.anyOf_W, M.still_W, M.roll_W, M.pick_W, M.thn_W, M.thn_nx, M.thn_rt, M.thn_bk, M.thn_ct, M.fin_W, M.fin_rt, M.finN_W, M.finN_rt, M.finN_nx, M.FK_nx, M.FK_ct, M.FK_bk, M.FK_rt, decide_eq_true_eq, if_true, if_false, Bool.false_eq_true, Bool.not_eq_true', decide_eq_false_iff_not, Bool.not_true, Bool.not_false, ite_not]
  generalize eL : ("abcdefghijklmnopqrstuvwxyz" : Str) = L
  obtain ⟨k1, k2, k3⟩ := let_key L eL.symm
  unfold nthS at q
  rw [k1, hs]
  by_cases z : i < 26
  · rw [if_pos z] at q
    exact (if_pos (by omega)).mpr ⟨by omega, _, lt_at k2 k3 z, q⟩
  · rw [if_neg z] at q
    have e1 : (i : Int).fdiv 26 - 1 = (((i - 26) / 26 : Nat) : Int) := by
      rw [Int.fdiv_eq_ediv_of_nonneg _ (by decide)]; omega
    have e2 : (i : Int).fmod 26 = (((i - 26) % 26 : Nat) : Int) := by
      rw [Int.fmod_eq_emod_of_nonneg _ (by decide)]; omega
    refine (if_neg (by omega)).mpr ⟨⟨by decide, by decide⟩, by omega, _, ?_, by decide, by omega, _, ?_, by rw [one_len, one_len]; omega, q⟩
    · rw [e1]; exact lt_at k2 k3 (by omega)
    · rw [e2]; exact lt_at k2 k3 (by omega)
theorem whileM_inv {Γ Δ β : Type} {t : Γ → M Bool} {f : Γ → M (Ct Γ Γ β)} {Q : Ct Γ Δ β → Nat → Prop} (I : Nat → Γ → Nat → Prop) {m : Nat} {ρ : Γ} (h0 : I m ρ c)
    (hs : ∀ m ρ d, I m ρ d → (t ρ).wp d (fun b e => if b = true then (f ρ).wp e (fun k e => M.FK (fun ρ' e => ∃ m', m' < m ∧ I m' ρ' e) Q k e) X else Q (.nx ρ) e) X) : (M.whileM (Δ := Δ) t f ρ).wp c Q X := by
  refine ⟨m + 1, ?_⟩
  have gen : ∀ (N m : Nat) (ρ : Γ) (d : Nat), m < N → I m ρ d → (M.whileN (Δ := Δ) t f N ρ).wp d Q X := by
    intro N
    induction N with
    | zero => intro m ρ d h; exact absurd h (Nat.not_lt_zero _)
    | succ N ih =>
      intro m ρ d h hI
      show (t ρ).wp d (fun b e => (M.ifb b ((f ρ).bind (M.forK fun ρ' => M.whileN (Δ := Δ) t f N ρ')) (.ret (.nx ρ))).wp e Q X) X
      refine M.wk (hs m ρ d hI) fun b e z => ?_
      cases b with
      | false => exact z
      | true =>
        show (f ρ).wp e (fun k e => (M.forK (fun ρ' => M.whileN (Δ := Δ) t f N ρ') k).wp e Q X) X
        refine M.wk z fun k e z => ?_
        cases k with
        | nx ρ' => obtain ⟨m', hm, z⟩ := z; exact ih m' ρ' e (by omega) z
        | ct ρ' => obtain ⟨m', hm, z⟩ := z; exact ih m' ρ' e (by omega) z
        | bk ρ' => exact z
        | rt b => exact z
  exact gen (m + 1) m ρ c (Nat.lt_succ_self m) h0
def newS (ns : List Str) (n : Nat) : List Str := (NT.filter fun x => !decide (x ∈ ns)).take n
theorem new_key {ns : List Str} : ∀ i, i ≤ 300 → i ≤ ((NT.take i).filter fun x => !decide (x ∈ ns)).length + ns.length := fun i hi => by
  have ll : (NT.take i).length = i := by
    rw [List.length_take]; unfold NT; rw [List.length_map, List.length_range]; omega
  have nd : ((NT.take i).filter fun x => decide (x ∈ ns)).Nodup := (nt_nd.sublist (List.take_sublist _ _)).sublist List.filter_sublist
  have le : ((NT.take i).filter fun x => decide (x ∈ ns)).length ≤ ns.length := List.Nodup.length_le_of_subset nd fun x hx => by simpa using (List.mem_filter.mp hx).2
  have p := (List.filter_append_perm (fun x => decide (x ∈ ns)) (NT.take i)).length_eq
  rw [List.length_append] at p
  omega
theorem new_step {ns : List Str} {i n : Nat} (hi : i ≤ 300) (h : ((NT.take i).filter fun x => !decide (x ∈ ns)).length = n) : (NT.take i).filter (fun x => !decide (x ∈ ns)) = newS ns n := by
  unfold newS
  have ed : NT.filter (fun x => !decide (x ∈ ns)) = (NT.take i).filter (fun x => !decide (x ∈ ns)) ++ (NT.drop i).filter fun x => !decide (x ∈ ns) := by
    conv => lhs; rw [← List.take_append_drop i NT]
    rw [List.filter_append]
  rw [ed, List.take_left' h]
theorem w_new_names {ns : List Str} {n : Nat} {m : M (List Str)} (em : m_new_names (ns, (n : Int), ()) = m) {Q : List Str → Nat → Prop} (hl : ∀ x ∈ ns, x.length ≤ 1000) (h : ns.all wdB = true) (hn : ns.length ≤ 200) (hm : n ≤ 100) (q : Q (newS ns n) c) : M.W m c Q X := by
  rw [← em]
  have ea := fun (c : Nat) (Q : Bool → Nat → Prop) (q : Q (ns.all wdB) c) => w_are_names (X := X) (c := c) (Q := Q) hl (by omega) q
  have er := fun (i lo hi : Int) (c : Nat) (Q : Unit → Nat → Prop) (m : M Unit) => w_require_count (i := i) (a := lo) (b := hi) (c := c) (X := X) (Q := Q) (m := m)
  have et := fun (i : Nat) (c : Nat) (Q : Str → Nat → Prop) (m : M Str) => w_nth_name (i := i) (c := c) (X := X) (Q := Q) (m := m)
  simp only [m_new_names, b_new_names, M.to_W, M.none_W, M.bind_W, M.ret_W, M.need_W, M.the_W, M.ifb_W, M.anyOf_W, M.still_W, M.roll_W, M.pick_W, M.thn_W, M.thn_nx, M.thn_rt, M.thn_bk, M.thn_ct, M.fin_W, M.fin_rt, M.finN_W, M.finN_rt, M.finN_nx, M.FK_nx, M.FK_ct, M.FK_bk, M.FK_rt, decide_eq_true_eq, if_true, if_false, Bool.false_eq_true, Bool.not_eq_true', decide_eq_false_iff_not, Bool.not_true, Bool.not_false, ite_not]
  generalize m_are_names = ma at *
  generalize m_require_count = mr at *
  generalize m_nth_name = mt at *
  refine ea _ _ ?_
  rw [h]
  refine (if_neg (by decide)).mpr ((if_neg (by omega)).mpr (er _ _ _ _ _ _ rfl (cnt_ok (b := 100) (by omega) (by omega) (by decide)) ?_))
  refine whileM_inv (fun m ρ' d => d = c ∧ ρ'.1 = ns ∧ ρ'.2.1 = (n : Int) ∧ ∃ i : Nat, ρ'.2.2.2.1 = (i : Int) ∧ i ≤ 300 ∧ m = 300 - i ∧ ρ'.2.2.1 = (NT.take i).filter (fun x => !decide (x ∈ ns)) ∧ ρ'.2.2.1.length ≤ n) ⟨rfl, rfl, rfl, 0, rfl, by omega, rfl, rfl, by simp⟩ ?_
  rintro m ⟨y1, y2, y3, y4, y5, y6⟩ d ⟨rfl, e1, e2, i, e3, h26, rfl, e4, h5⟩
  dsimp only at e1 e2 e3 e4 h5
  subst e1 e2 e3
  have k := new_key (ns := y1) i h26
  simp only [M.to_W, M.none_W, M.bind_W, M.ret_W, M.need_W, M.the_W, M.ifb_W, M.anyOf_W, M.still_W, M.roll_W, M.pick_W, M.thn_W, M.thn_nx, M.thn_rt, M.thn_bk, M.thn_ct, M.fin_W, M.fin_rt, M.finN_W, M.finN_rt, M.finN_nx, M.FK_nx, M.FK_ct, M.FK_bk, M.FK_rt, decide_eq_true_eq, if_true, if_false, Bool.false_eq_true, Bool.not_eq_true', decide_eq_false_iff_not, Bool.not_true, Bool.not_false, ite_not]
  by_cases lt : y3.length < n
  · refine (if_pos (by omega)).mpr ?_
    have i26 : i < 300 := by rw [← e4] at k; omega
    refine et i _ _ _ rfl (by omega) ?_
    have hx := nt_at i26
    have tk : NT.take (i + 1) = NT.take i ++ [nthS i] := by rw [List.take_add_one, hx]; rfl
    by_cases hm : nthS i ∈ y1
    · refine (if_pos hm).mpr ⟨_, ?_, trivial, trivial, trivial, i + 1, by omega, by omega, rfl, ?_, h5⟩
      · omega
      · rw [tk, List.filter_append, ← e4]; simp [hm]
    · refine (if_neg hm).mpr ⟨sizeLt (by omega), _, ?_, trivial, trivial, trivial, i + 1, by omega, by omega, rfl, ?_, ?_⟩
      · omega
      · rw [tk, List.filter_append, ← e4]; simp [hm]
      · rw [List.length_append, List.length_singleton]; omega
  · refine (if_neg (by omega)).mpr ?_
    have ln : y3.length = n := by omega
    rw [e4, new_step (n := n) h26 (by rw [← e4]; exact ln)]
    exact q
theorem nms_strsL : ∀ {ds : List PyData}, ds.all namD = true → ∃ xs, strsD ds = some xs ∧ xs.all wdB = true ∧ ds = xs.map .str
  | [], _ => ⟨[], rfl, rfl, rfl⟩
  | z :: ds, h => by
    rw [List.all_cons, Bool.and_eq_true] at h
    obtain ⟨xs, e1, e2, e3⟩ := nms_strsL h.2
    cases z with
    | str x =>
      refine ⟨x :: xs, ?_, ?_, ?_⟩
      · show (strsD ds).map (x :: ·) = _
        rw [e1]; rfl
      · rw [List.all_cons, e2, Bool.and_true]; exact h.1
      · rw [e3]; rfl
    | _ => cases h.1
theorem nms_strs {d : PyData} (h : nmsD d = true) : ∃ xs, dTupS d = some xs ∧ xs.all wdB = true ∧ d = .tuple (xs.map .str) := by
  cases d with
  | tuple ds =>
    obtain ⟨xs, e1, e2, e3⟩ := nms_strsL (ds := ds) h
    exact ⟨xs, e1, e2, by rw [e3]⟩
  | _ => cases h
theorem w_new_names_X {e : PyData} {m : M (List Str)} (em : m_new_names_X (d, e, ()) = m) {Q : List Str → Nat → Prop} (hl : ∀ ds, d = .tuple ds → ds.length ≤ 1000 ∧ ∀ z ∈ ds, shD z)
    (n1 : nmsD d = false ∨ (∃ xs, dTupS d = some xs ∧ 200 < xs.length) → X ⟨"InvalidOperation", .none⟩) (n2 : nmsD d = true → (∀ xs, dTupS d = some xs → xs.length ≤ 200) → cntD 0 100 e = false → X ⟨"InvalidCount", e⟩)
    (yes : nmsD d = true → (n : Nat) → n ≤ 100 → e = .int n → (xs : List Str) → dTupS d = some xs → xs.length ≤ 200 → Q (newS xs n) c) : M.W m c Q X := by
  rw [← em]
  have ek := fun (c : Nat) (Q : Unit → Nat → Prop) => w_count_X (a := 0) (b := 100) (c := c) (d := e) (X := X) (Q := Q)
  have ea := fun (c : Nat) (Q : Bool → Nat → Prop) (q : Q (nmsD d) c) => w_are_names_D (X := fun _ => False) (c := c) (Q := Q) hl q
  have et := fun (j : Nat) (hj : j < 702) (c : Nat) (Q : Str → Nat → Prop) (m : M Str) (em : m_nth_name_X (.int j, ()) = m) (q : Q (nthS j) c) => w_nth_name_X (d := .int j) (c := c) (X := X) (Q := Q) em (fun z => by rw [cnt_ok (b := 701) (by omega) (by omega) (by decide)] at z; cases z) fun i _ e => by cases e; exact q
  simp only [m_new_names_X, b_new_names_X, M.to_W, M.none_W, M.bind_W, M.ret_W, M.need_W, M.the_W, M.ifb_W, M.anyOf_W, M.still_W, M.roll_W, M.pick_W, M.thn_W, M.thn_nx, M.thn_rt, M.thn_bk, M.thn_ct, M.fin_W, M.fin_rt, M.finN_W, M.finN_rt, M.finN_nx, M.FK_nx, M.FK_ct, M.FK_bk, M.FK_rt, decide_eq_true_eq, if_true, if_false, Bool.false_eq_true, Bool.not_eq_true', decide_eq_false_iff_not, Bool.not_true, Bool.not_false, ite_not, M.safe_W, M.raise_W]
  generalize m_are_names_D = ma at *
  generalize m_require_count_X = mr at *
  generalize m_nth_name_X = mt at *
  refine ea _ _ ?_
  cases hd : nmsD d with
  | false => exact (if_pos rfl).mpr (n1 (.inl hd))
  | true =>
    obtain ⟨xs, hx, al, le⟩ := nms_strs hd
    refine (if_neg (by decide)).mpr ⟨xs, hx, ?_⟩
    by_cases h2 : 200 < xs.length
    · exact (if_pos (by omega)).mpr (n1 (.inr ⟨xs, hx, h2⟩))
    refine (if_neg (by omega)).mpr (ek _ _ (n2 hd fun ys ey => by rw [hx] at ey; cases ey; omega) fun y => ?_)
    cases e with
    | int j =>
      have y : (intD (.int j) && (decide (0 ≤ j) && decide (j ≤ 100))) = true := y
      rw [Bool.and_eq_true, Bool.and_eq_true, decide_eq_true_eq, decide_eq_true_eq] at y
      obtain ⟨_, y1, y2⟩ := y
      obtain ⟨n, rfl⟩ := Int.eq_ofNat_of_zero_le y1
      have yq := yes hd n (by omega) rfl xs hx (by omega)
      refine whileM_inv (fun m ρ' d' => d' = c ∧ ρ'.1 = d ∧ ρ'.2.1 = .int (n : Int) ∧ ∃ i : Nat, ρ'.2.2.2.1 = (i : Int) ∧ i ≤ 300 ∧ m = 300 - i ∧ ρ'.2.2.1 = (NT.take i).filter (fun x => !decide (x ∈ xs)) ∧ ρ'.2.2.1.length ≤ n) ⟨rfl, rfl, rfl, 0, rfl, by omega, rfl, rfl, by simp⟩ ?_
      rintro m ⟨y1, y2, y3, y4, y5, y6⟩ d' ⟨rfl, e1, e2, i, e3, h26, rfl, e4, h5⟩
      dsimp only at e1 e2 e3 e4 h5
      subst e1 e2 e3
      have k := new_key (ns := xs) i h26
      simp only [M.to_W, M.none_W, M.bind_W, M.ret_W, M.need_W, M.the_W, M.ifb_W, M.anyOf_W, M.still_W, M.roll_W, M.pick_W, M.thn_W, M.thn_nx, M.thn_rt, M.thn_bk, M.thn_ct, M.fin_W, M.fin_rt, M.finN_W, M.finN_rt, M.finN_nx, M.FK_nx, M.FK_ct, M.FK_bk, M.FK_rt, decide_eq_true_eq, if_true, if_false, Bool.false_eq_true, Bool.not_eq_true', decide_eq_false_iff_not, Bool.not_true, Bool.not_false, ite_not, M.safe_W]
      refine ⟨_, rfl, ?_⟩
      by_cases lt : y3.length < n
      · refine (if_pos (by omega)).mpr ?_
        have i26 : i < 300 := by rw [← e4] at k; omega
        refine et i (by omega) _ _ _ rfl ?_
        have hx2 := nt_at i26
        have tk : NT.take (i + 1) = NT.take i ++ [nthS i] := by rw [List.take_add_one, hx2]; rfl
        refine ⟨xs, hx, ?_⟩
        by_cases hm : nthS i ∈ xs
        · refine (if_pos hm).mpr ⟨_, ?_, trivial, trivial, trivial, i + 1, by omega, by omega, rfl, ?_, h5⟩
          · omega
          · rw [tk, List.filter_append, ← e4]; simp [hm]
        · refine (if_neg hm).mpr ⟨sizeLt (by omega), _, ?_, trivial, trivial, trivial, i + 1, by omega, by omega, rfl, ?_, ?_⟩
          · omega
          · rw [tk, List.filter_append, ← e4]; simp [hm]
          · rw [List.length_append, List.length_singleton]; omega
      · refine (if_neg (by omega)).mpr ?_
        have ln : y3.length = n := by omega
        rw [e4, new_step (n := n) h26 (by rw [← e4]; exact ln)]
        exact yq
    | _ => cases y
end
structure wOk (x : Str) : Prop where
  n : x.length ≤ 10
  ok : PyData.strOk x = true
theorem lit0 : ("" : Str).cps.toList = [] := by decide +kernel
theorem ones_sum : ∀ {xs : List Str}, (∀ x ∈ xs, ∃ z, z < 128 ∧ x = ⟨#[z]⟩) → (xs.map fun x => x.length).sum = xs.length
  | [], _ => rfl
  | x :: xs, h => by
    obtain ⟨z, _, e⟩ := h x List.mem_cons_self
    rw [List.map_cons, List.sum_cons, List.length_cons, ones_sum fun y hy => h y (List.mem_cons_of_mem _ hy), e, one_len]
    omega
theorem ok_join {xs : List Str} (hl : xs.length ≤ 10) (h : ∀ x ∈ xs, ∃ z, z < 128 ∧ x = ⟨#[z]⟩) : wOk (Txt.join "" xs) := by
  refine ⟨?_, ?_⟩
  · have := PySem.W.KT.join_ones xs fun x hx => by
      obtain ⟨z, _, e⟩ := h x hx
      rw [e]; rfl
    exact Nat.le_trans (Nat.le_of_eq this) hl
  · unfold PyData.strOk
    refine Array.all_eq_true_iff_forall_mem.mpr fun z hz => ?_
    have hz : z ∈ (Builtin.Str.glued "" xs).cps.toList := Array.mem_toList_iff.mpr hz
    rw [StrLaws.glued_eq_join, mem_join] at hz
    rcases hz with ⟨t, ht, hz⟩ | ⟨_, hz⟩
    · obtain ⟨y, hy, rfl⟩ := h t ht
      have : z = y := by simpa using hz
      exact decide_eq_true (by omega)
    · rw [lit0] at hz; cases hz
section
variable {c : Nat} {X : Er → Prop} {d : PyData} {x : Str} {a b i : Int}
theorem w_signs {S : Str} {r : Int} {Q : List Str → Nat → Prop} {f : Int → M (Option Str)} (hn : 0 < S.length) (hl : S.length ≤ 20) (hs : ∀ z ∈ S.cps.toList, z < 128) (r1 : r < 11) (hc : c < 200000)
    (hf : ∀ a c (Q : Option Str → Nat → Prop), (S.length ≤ sizeLine ∧ c < 2 ^ 60 ∧ (0 : Int) < (S.length : Int) ∧ Bd 9000 (S.length : Int) ∧ ∀ r, 0 ≤ r → r < (S.length : Int) → S.length ≤ sizeLine ∧ ∃ z, atI S.cps.toList r = some z ∧ Q (some ⟨#[z]⟩) (c + 1)) → M.W (f a) c Q X)
    (q : ∀ xs d, xs.length ≤ 10 → (∀ x ∈ xs, ∃ z, z < 128 ∧ x = (⟨#[z]⟩ : Str)) → d ≤ c + 10 → Q xs d) : M.W (M.lcM (rng 0 r) f) c Q X := by
  have hr : (rng 0 r).length ≤ 10 := by rw [rng_len]; omega
  have hs2 := sizeL (n := S.length) (by omega)
  refine M.lcM_inv (fun i ys d => d ≤ c + i ∧ ys.length = i ∧ ∀ x ∈ ys, ∃ z, z < 128 ∧ x = (⟨#[z]⟩ : Str)) ⟨Nat.le_refl _, rfl, fun _ h => by cases h⟩ ?_ ?_
  · rintro i a ys d hi ⟨h1, h2, h3⟩
    have hi2 := (List.getElem?_eq_some_iff.mp hi).1
    refine hf _ _ _ ⟨hs2, by omega, by omega, bd_sm (by omega) (by omega), fun r r0 r1 => ⟨hs2, ?_⟩⟩
    obtain ⟨j, rfl⟩ := Int.eq_ofNat_of_zero_le r0
    have hj : j < S.cps.toList.length := by
      have : S.cps.toList.length = S.length := Array.length_toList
      omega
    refine ⟨_, L2.atI_nat (List.getElem?_eq_getElem hj), by omega, ?_, ?_⟩
    · show (ys ++ [_]).length = _
      rw [List.length_append, h2]; rfl
    · intro x hx
      rcases List.mem_append.mp hx with hx | hx
      · exact h3 x hx
      · have hx : x ∈ [(⟨#[S.cps.toList[j]]⟩ : Str)] := hx
        exact ⟨_, hs _ (List.getElem_mem hj), List.mem_singleton.mp hx⟩
  · rintro ys d ⟨h1, h2, h3⟩
    exact q ys d (by omega) h3 (by omega)
theorem w_any_word {Q : Str → Nat → Prop} (hc : c < 100000) (q : ∀ x d, wOk x → d ≤ c + 20 → Q x d) : M.W (m__law_any_word ()) c Q X := by
  simp only [m__law_any_word, b__law_any_word, M.to_W, M.none_W, M.bind_W, M.ret_W, M.need_W, M.the_W, M.ifb_W, M.anyOf_W, M.still_W, M.roll_W, M.pick_W, M.thn_W, M.thn_nx, M.thn_rt, M.thn_bk, M.thn_ct, M.fin_W, M.fin_rt, M.finN_W, M.finN_rt, M.finN_nx, M.FK_nx, M.FK_ct, M.FK_bk, M.FK_rt, decide_eq_true_eq, if_true, if_false, Bool.false_eq_true, Bool.not_eq_true', decide_eq_false_iff_not, Bool.not_true, Bool.not_false, ite_not]
  have key : ∀ S : Str, 0 < S.length → S.length ≤ 20 → (∀ z ∈ S.cps.toList, z < 128) → ∀ r : Int, 0 ≤ r → r < 11 → ∀ f : Int → M (Option Str),
      (∀ a c (Q : Option Str → Nat → Prop), (S.length ≤ sizeLine ∧ c < 2 ^ 60 ∧ (0 : Int) < (S.length : Int) ∧ Bd 9000 (S.length : Int) ∧ ∀ r, 0 ≤ r → r < (S.length : Int) → S.length ≤ sizeLine ∧ ∃ z, atI S.cps.toList r = some z ∧ Q (some ⟨#[z]⟩) (c + 1)) → M.W (f a) c Q X) →
      (-2 ^ 62 ≤ r ∧ r < 2 ^ 62) ∧ (rng 0 r).length ≤ 1000000 ∧ M.W (M.lcM (rng 0 r) f) (c + 1 + 1) (fun a d => (a.map fun x => x.length).sum + a.length * ("" : Str).length ≤ 16777216 ∧ Q (Txt.join "" a) d) X := fun S h1 h2 h3 r r0 r1 f hf => by
    refine ⟨⟨by omega, by omega⟩, by rw [rng_len]; omega, w_signs h1 h2 h3 r1 (by omega) hf fun xs d l1 l2 l3 => ⟨?_, q _ _ (ok_join l1 l2) (by omega)⟩⟩
    rw [ones_sum l2, show ("" : Str).length = 0 by decide +kernel]
    omega
  refine ⟨by omega, by omega, bd_sm (by decide) (by decide), fun r r0 r1 => ?_⟩
  by_cases z : 0 < r
  · exact (if_pos z).mpr ⟨by omega, by omega, bd_sm (by decide) (by decide), fun r r0 r1 => key "abcxyzpiecround" (by decide +kernel) (by decide +kernel) (by decide +kernel) r r0 r1 _ fun a c Q h => by
      simp only [M.to_W, M.none_W, M.bind_W, M.ret_W, M.need_W, M.the_W, M.ifb_W, M.anyOf_W, M.still_W, M.roll_W, M.pick_W, M.thn_W, M.thn_nx, M.thn_rt, M.thn_bk, M.thn_ct, M.fin_W, M.fin_rt, M.finN_W, M.finN_rt, M.finN_nx, M.FK_nx, M.FK_ct, M.FK_bk, M.FK_rt, decide_eq_true_eq, if_true, if_false, Bool.false_eq_true, Bool.not_eq_true', decide_eq_false_iff_not, Bool.not_true, Bool.not_false, ite_not]; exact h⟩
  · exact (if_neg z).mpr ⟨by omega, by omega, bd_sm (by decide) (by decide), fun r r0 r1 => key "abzAZ019 _-" (by decide +kernel) (by decide +kernel) (by decide +kernel) r r0 r1 _ fun a c Q h => by
      simp only [M.to_W, M.none_W, M.bind_W, M.ret_W, M.need_W, M.the_W, M.ifb_W, M.anyOf_W, M.still_W, M.roll_W, M.pick_W, M.thn_W, M.thn_nx, M.thn_rt, M.thn_bk, M.thn_ct, M.fin_W, M.fin_rt, M.finN_W, M.finN_rt, M.finN_nx, M.FK_nx, M.FK_ct, M.FK_bk, M.FK_rt, decide_eq_true_eq, if_true, if_false, Bool.false_eq_true, Bool.not_eq_true', decide_eq_false_iff_not, Bool.not_true, Bool.not_false, ite_not]; exact h⟩
theorem w_any_integer {Q : Int → Nat → Prop} (hc : c < 100000) (q : ∀ i d, Int.natAbs i < 10 ^ 100 → d ≤ c + 20 → Q i d) : M.W (m__law_any_integer ()) c Q X := by
  simp only [m__law_any_integer, b__law_any_integer, M.to_W, M.none_W, M.bind_W, M.ret_W, M.need_W, M.the_W, M.ifb_W, M.anyOf_W, M.still_W, M.roll_W, M.pick_W, M.thn_W, M.thn_nx, M.thn_rt, M.thn_bk, M.thn_ct, M.fin_W, M.fin_rt, M.finN_W, M.finN_rt, M.finN_nx, M.FK_nx, M.FK_ct, M.FK_bk, M.FK_rt, decide_eq_true_eq, if_true, if_false, Bool.false_eq_true, Bool.not_eq_true', decide_eq_false_iff_not, Bool.not_true, Bool.not_false, ite_not]
  have p : ∀ j : Int, 0 ≤ j → j ≤ 1000 → CPow 10 j := fun j h1 h2 => ⟨h1, by omega, by decide⟩
  refine ⟨p _ (by decide) (by decide), p _ (by decide) (by decide), p _ (by decide) (by decide), p _ (by decide) (by decide), p _ (by decide) (by decide), p _ (by decide) (by decide), by unfold CMulX; decide +kernel, by omega, by simp, by simp, fun x hx => ⟨by omega, by omega, bd_sm (by decide) (by decide), fun r r0 r1 => ⟨by omega, by omega, bd_sm (by decide) (by decide), fun s s0 s1 => ?_⟩⟩⟩
  have hb : 0 ≤ x ∧ x ≤ 10 ^ 99 := by
    have e : ∀ y ∈ ([0, 1, 9, 10 ^ Int.toNat 5, 10 ^ Int.toNat 59, 10 ^ Int.toNat 60, 10 ^ Int.toNat 60, 10 ^ Int.toNat 50 * 10 ^ Int.toNat 30] : List Int), 0 ≤ y ∧ y ≤ 10 ^ 99 := by decide +kernel
    exact e x hx
  have e99 : (10 : Int) ^ 99 = ((10 ^ 99 : Nat) : Int) := by rw [Int.natCast_pow]; rfl
  have e100 : (10 : Nat) ^ 99 + 10 < 10 ^ 100 := by decide
  generalize (10 : Nat) ^ 99 = A at *
  generalize (10 : Nat) ^ 100 = B at *
  rw [e99] at hb
  split
  · exact q _ _ (by omega) (by omega)
  · exact q _ _ (by omega) (by omega)
theorem all_lay : ∀ {L : List Str}, (∀ s ∈ L, PyData.strOk s = true) → PyData.canLayAll0 (L.map .str) = true
  | [], _ => by simp [PyData.canLayAll0]
  | s :: L, h => by
    rw [List.map_cons, PyData.canLayAll0, PyData.canLay0, h s List.mem_cons_self, Bool.true_and]
    exact all_lay fun y hy => h y (List.mem_cons_of_mem _ hy)
theorem lay_drop {L : List Str} {p : Str → Bool} (h : ∀ s ∈ L, PyData.strOk s = true) : (PyData.list ((L.filterMap fun s => if p s = true then none else some s).map .str)).canLay0 = true := by
  rw [PyData.canLay0]
  refine all_lay fun s hs => ?_
  obtain ⟨y, hy, e⟩ := List.mem_filterMap.mp hs
  split at e
  · cases e
  · cases e; exact h _ hy
theorem nil_eqv {L : List Str} {p : Str → Bool} : (PyData.list ((L.filterMap fun s => if p s = true then none else some s).map .str)).eqv (PyData.list (([] : List Str).map .str)) = L.all p := by
  rw [List.map_nil, PyData.eqv]
  induction L with
  | nil => rfl
  | cons s L ih =>
    rw [List.filterMap_cons, List.all_cons]
    cases z : p s with
    | true => simpa [z] using ih
    | false => simp [z, PyData.eqvAll]
theorem lcM_letters {S : Str} {Q : Bool → Nat → Prop} {f : Str → M (Option Str)} (h : PyData.strOk S = true) (hf : ∀ s, f s = ((M.ret s).bind fun x => (M.ret LET).bind fun y => M.ret (!inStr x y)).bind fun b => M.ifb b ((M.ret s).bind fun y => M.ret (some y)) (M.ret none)) (q : Q ((PF.signs S).all fun s => inStr s LET) c) :
    M.W (M.lcM (PF.signs S) f) c (fun a d => ((PyData.list (a.map .str)).canLay0 = true ∧ (PyData.list (([] : List Str).map .str)).canLay0 = true) ∧ Q ((PyData.list (a.map .str)).eqv (PyData.list (([] : List Str).map .str))) d) X := by
  refine M.lcM_filter (g := fun s => if inStr s LET = true then none else some s) (fun s _ Q q => ?_) ?_
  · rw [hf]
    simp only [M.to_W, M.none_W, M.bind_W, M.ret_W, M.need_W, M.the_W, M.ifb_W, M.anyOf_W, M.still_W, M.roll_W, M.pick_W, M.thn_W, M.thn_nx, M.thn_rt, M.thn_bk, M.thn_ct, M.fin_W, M.fin_rt, M.finN_W, M.finN_rt, M.finN_nx, M.FK_nx, M.FK_ct, M.FK_bk, M.FK_rt, decide_eq_true_eq, if_true, if_false, Bool.false_eq_true, Bool.not_eq_true', decide_eq_false_iff_not, Bool.not_true, Bool.not_false, ite_not]
    cases z : inStr s LET with
    | true => rw [z] at q; exact (if_neg (by simp)).mpr (by simpa using q)
    | false => rw [z] at q; exact (if_pos (by simp)).mpr (by simpa using q)
  · have hz : ∀ s ∈ PF.signs S, PyData.strOk s = true := fun s hs => by
      unfold PF.signs at hs
      obtain ⟨z, hz, rfl⟩ := List.mem_map.mp hs
      have := Array.all_eq_true_iff_forall_mem.mp h z (Array.mem_toList_iff.mp hz)
      unfold PyData.strOk
      refine Array.all_eq_true_iff_forall_mem.mpr fun y hy => ?_
      have : y = z := by simpa using hy
      rw [this]; assumption
    refine ⟨⟨lay_drop hz, by simp [PyData.canLay0, PyData.canLayAll0]⟩, ?_⟩
    rw [nil_eqv]; exact q
theorem w_lettered {Q : Bool → Nat → Prop} (h : wOk x) (q : Q (wdB x) c) : M.W (m__law_lettered (x, ())) c Q X := by
  simp only [m__law_lettered, b__law_lettered, M.to_W, M.none_W, M.bind_W, M.ret_W, M.need_W, M.the_W, M.ifb_W, M.anyOf_W, M.still_W, M.roll_W, M.pick_W, M.thn_W, M.thn_nx, M.thn_rt, M.thn_bk, M.thn_ct, M.fin_W, M.fin_rt, M.finN_W, M.finN_rt, M.finN_nx, M.FK_nx, M.FK_ct, M.FK_bk, M.FK_rt, decide_eq_true_eq, if_true, if_false, Bool.false_eq_true, Bool.not_eq_true', decide_eq_false_iff_not, Bool.not_true, Bool.not_false, ite_not]
  have hn := h.n
  unfold wdB at q
  refine (if_neg (by simp)).mpr ⟨sizeL (by omega), ?_⟩
  by_cases h1 : (1 : Int) ≤ (x.length : Int)
  · rw [if_pos h1]
    by_cases h2 : (x.length : Int) ≤ 8
    · rw [if_pos h2]
      rw [decide_eq_true h1, decide_eq_true h2, Bool.true_and, Bool.true_and] at q
      exact ⟨by rw [signs_len]; omega, lcM_letters h.ok (fun _ => rfl) q⟩
    · rw [if_neg h2]
      rw [decide_eq_false h2, Bool.and_false, Bool.false_and] at q
      exact q
  · rw [if_neg h1]
    rw [decide_eq_false h1, Bool.false_and, Bool.false_and] at q
    exact q
theorem er_perm {α : Type} : ∀ {l : List α} {k : Nat} (h : k < l.length), (l[k] :: l.eraseIdx k).Perm l
  | x :: l, 0, _ => by simp
  | x :: l, k + 1, h => by
    have ih := er_perm (l := l) (k := k) (by simpa using h)
    rw [List.eraseIdx_cons_succ, List.getElem_cons_succ]
    exact (List.Perm.swap ..).trans (ih.cons x)
theorem w_mixed {xs : List Str} {Q : List Str → Nat → Prop} (hc : c < 100000) (hl : xs.length ≤ 100) (q : ∀ ys d, ys.Perm xs → d ≤ c + 100 → Q ys d) : M.W (m__law_mixed (xs, ())) c Q X := by
  simp only [m__law_mixed, b__law_mixed, M.to_W, M.none_W, M.bind_W, M.ret_W, M.need_W, M.the_W, M.ifb_W, M.anyOf_W, M.still_W, M.roll_W, M.pick_W, M.thn_W, M.thn_nx, M.thn_rt, M.thn_bk, M.thn_ct, M.fin_W, M.fin_rt, M.finN_W, M.finN_rt, M.finN_nx, M.FK_nx, M.FK_ct, M.FK_bk, M.FK_rt, decide_eq_true_eq, if_true, if_false, Bool.false_eq_true, Bool.not_eq_true', decide_eq_false_iff_not, Bool.not_true, Bool.not_false, ite_not]
  refine ⟨⟨by omega, by omega⟩, ?_⟩
  refine M.forM_inv (fun i ρ d => d ≤ c + i ∧ (ρ.2.2.1 ++ ρ.2.2.2.1).Perm xs ∧ ρ.2.2.1.length + i = xs.length ∧ ρ.2.2.2.1.length = i) ⟨Nat.le_refl _, by rw [List.append_nil], rfl, rfl⟩ ?_ ?_
  · rintro i a ⟨_, _, left, found, _, _⟩ d hi ⟨h1, h2, h3, h4⟩
    have hi0 := (List.getElem?_eq_some_iff.mp hi).1
    rw [rng_len] at hi0
    have hi' : i < xs.length := by omega
    dsimp only at h2 h3 h4
    simp only [M.to_W, M.none_W, M.bind_W, M.ret_W, M.need_W, M.the_W, M.ifb_W, M.anyOf_W, M.still_W, M.roll_W, M.pick_W, M.thn_W, M.thn_nx, M.thn_rt, M.thn_bk, M.thn_ct, M.fin_W, M.fin_rt, M.finN_W, M.finN_rt, M.finN_nx, M.FK_nx, M.FK_ct, M.FK_bk, M.FK_rt, decide_eq_true_eq, if_true, if_false, Bool.false_eq_true, Bool.not_eq_true', decide_eq_false_iff_not, Bool.not_true, Bool.not_false, ite_not]
    refine ⟨by omega, by omega, bd_sm (by omega) (by omega), fun r r0 r1 => ⟨⟨by omega, r0⟩, ?_⟩⟩
    have hr : r.toNat < left.length := by omega
    refine ⟨_, List.getElem?_eq_getElem hr, sizeLt (by omega), by omega, ?_, ?_, by simp only [List.length_append, List.length_singleton]; omega⟩
    · have p := er_perm hr
      have p2 : (left.eraseIdx r.toNat ++ (found ++ [left[r.toNat]])).Perm (left[r.toNat] :: (left.eraseIdx r.toNat ++ found)) := by
        rw [← List.append_assoc]
        exact List.perm_append_singleton _ _
      exact p2.trans ((List.Perm.append_right found p).trans h2)
    · show (left.eraseIdx r.toNat).length + (i + 1) = xs.length
      rw [List.length_eraseIdx, if_pos hr]; omega
  · rintro ⟨_, _, left, found, _, _⟩ d ⟨h1, h2, h3, h4⟩
    rw [rng_len] at h1 h3 h4
    simp only [M.to_W, M.none_W, M.bind_W, M.ret_W, M.need_W, M.the_W, M.ifb_W, M.anyOf_W, M.still_W, M.roll_W, M.pick_W, M.thn_W, M.thn_nx, M.thn_rt, M.thn_bk, M.thn_ct, M.fin_W, M.fin_rt, M.finN_W, M.finN_rt, M.finN_nx, M.FK_nx, M.FK_ct, M.FK_bk, M.FK_rt, decide_eq_true_eq, if_true, if_false, Bool.false_eq_true, Bool.not_eq_true', decide_eq_false_iff_not, Bool.not_true, Bool.not_false, ite_not]
    dsimp only at h2 h3 h4
    have : left = [] := List.length_eq_zero_iff.mp (by omega)
    rw [this, List.nil_append] at h2
    exact q _ _ h2 (by omega)
theorem w_some {xs : List Str} {Q : List Str → Nat → Prop} (hc : c < 100000) (hl : xs.length ≤ 100) (q : ∀ ys d, (∀ y ∈ ys, y ∈ xs) → ys.length ≤ xs.length → d ≤ c + 100 → Q ys d) : M.W (m__law_some (xs, ())) c Q X := by
  simp only [m__law_some, b__law_some, M.to_W, M.none_W, M.bind_W, M.ret_W, M.need_W, M.the_W, M.ifb_W, M.anyOf_W, M.still_W, M.roll_W, M.pick_W, M.thn_W, M.thn_nx, M.thn_rt, M.thn_bk, M.thn_ct, M.fin_W, M.fin_rt, M.finN_W, M.finN_rt, M.finN_nx, M.FK_nx, M.FK_ct, M.FK_bk, M.FK_rt, decide_eq_true_eq, if_true, if_false, Bool.false_eq_true, Bool.not_eq_true', decide_eq_false_iff_not, Bool.not_true, Bool.not_false, ite_not]
  refine ⟨by omega, M.lcM_inv (fun i ys d => d ≤ c + i ∧ ys.length ≤ i ∧ ∀ y ∈ ys, y ∈ xs) ⟨Nat.le_refl _, Nat.le_refl _, fun _ h => by cases h⟩ ?_ ?_⟩
  · rintro i a ys d hi ⟨h1, h2, h3⟩
    obtain ⟨hi2, hi3⟩ := List.getElem?_eq_some_iff.mp hi
    simp only [M.to_W, M.none_W, M.bind_W, M.ret_W, M.need_W, M.the_W, M.ifb_W, M.anyOf_W, M.still_W, M.roll_W, M.pick_W, M.thn_W, M.thn_nx, M.thn_rt, M.thn_bk, M.thn_ct, M.fin_W, M.fin_rt, M.finN_W, M.finN_rt, M.finN_nx, M.FK_nx, M.FK_ct, M.FK_bk, M.FK_rt, decide_eq_true_eq, if_true, if_false, Bool.false_eq_true, Bool.not_eq_true', decide_eq_false_iff_not, Bool.not_true, Bool.not_false, ite_not]
    refine ⟨by omega, by omega, bd_sm (by decide) (by decide), fun r r0 r1 => ?_⟩
    split
    · refine ⟨by omega, ?_, fun y hy => ?_⟩
      · show (ys ++ [a]).length ≤ _
        rw [List.length_append]; simp; omega
      · rcases List.mem_append.mp hy with hy | hy
        · exact h3 y hy
        · have hy : y ∈ [a] := hy
          rw [List.mem_singleton.mp hy, ← hi3]; exact List.getElem_mem _
    · refine ⟨by omega, ?_, fun y hy => ?_⟩
      · show (ys ++ []).length ≤ _
        rw [List.append_nil]; omega
      · have hy : y ∈ ys ++ [] := hy
        rw [List.append_nil] at hy
        exact h3 y hy
  · rintro ys d ⟨h1, h2, h3⟩
    exact q ys d h3 h2 (by omega)
end
theorem abs_len {n : Nat} : ((Str.ofString (toString (n : Int))).length : Int) ≤ 60 ↔ n < 10 ^ 60 := by
  rw [PySem.ofString_length]
  show ((Nat.repr n).length : Int) ≤ 60 ↔ _
  rw [← Nat.length_repr_le_iff (n := n) (k := 60) (by decide)]
  omega
theorem abs_ok {n : Nat} (h : n < 10 ^ 100) : Nat.log2 (Int.natAbs (n : Int)) < 1920 ∧ (Str.ofString (toString (n : Int))).length ≤ sizeLine := by
  rw [Int.natAbs_natCast]
  refine ⟨?_, ?_⟩
  · by_cases z : n = 0
    · rw [z]; decide
    · exact (Nat.log2_lt z).mpr (Nat.lt_of_lt_of_le h (Nat.le_trans (show 10 ^ 100 ≤ 2 ^ 400 by decide) (Nat.pow_le_pow_right (by decide) (by decide))))
  · rw [PySem.ofString_length]
    have := int_text_length_le10 (a := (n : Int)) (k := 100) (by decide) (by rw [Int.natAbs_natCast]; exact h)
    exact sizeL (by omega)
theorem int_abs {n : Int} : intD (.int n) = decide (n.natAbs < 10 ^ 60) := by
  have e60 : (10 : Nat) ^ 60 = 1000000000000000000000000000000000000000000000000000000000000 := by decide
  rw [e60]
  show (decide (_ < _) && decide (_ < _)) = _
  rw [← Bool.decide_and]
  congr 1
  refine propext ⟨fun h => ?_, fun h => ?_⟩ <;> omega
theorem bools3 (a b c : Bool) : (PyData.list ([a, b, c].map PyData.bool)).showable = true ∧ (PyData.list ([a, b, c].map PyData.bool)).hasDict = false ∧ (PyData.list ([a, b, c].map PyData.bool)).shown.length ≤ sizeLine ∧ (PyData.list ([a, b, c].map PyData.bool)).depth ≤ 64 := by
  have : (PyData.list ([a, b, c].map PyData.bool)).showable = true ∧ (PyData.list ([a, b, c].map PyData.bool)).hasDict = false ∧ (PyData.list ([a, b, c].map PyData.bool)).shown.length ≤ 1000 ∧ (PyData.list ([a, b, c].map PyData.bool)).depth ≤ 64 := by
    revert a b c; decide +kernel
  exact ⟨this.1, this.2.1, sizeL (by omega), this.2.2.2⟩
theorem bool1 (a : Bool) : (PyData.bool a).showable = true ∧ (PyData.bool a).hasDict = false ∧ (PyData.bool a).shown.length ≤ sizeLine ∧ (PyData.bool a).depth ≤ 64 := by
  have : (PyData.bool a).showable = true ∧ (PyData.bool a).hasDict = false ∧ (PyData.bool a).shown.length ≤ 1000 ∧ (PyData.bool a).depth ≤ 64 := by
    revert a; decide +kernel
  exact ⟨this.1, this.2.1, sizeL (by omega), this.2.2.2⟩
def shB : PyData → Bool
  | .str x => decide (x.length ≤ 1000)
  | .tuple ds => decide (ds.length ≤ 1000) && ds.all fun z => match z with
    | .str x => decide (x.length ≤ 1000)
    | _ => true
  | _ => true
theorem shB_sh {d : PyData} (h : shB d = true) : shD d := by
  cases d with
  | str x => exact (show x.length ≤ 1000 from of_decide_eq_true h)
  | _ => trivial
theorem shB_tup {d : PyData} (h : shB d = true) : ∀ ds, d = .tuple ds → ds.length ≤ 1000 ∧ ∀ z ∈ ds, shD z := fun ds e => by
  subst e
  have h : (decide (ds.length ≤ 1000) && ds.all fun z => match z with
    | .str x => decide (x.length ≤ 1000)
    | _ => true) = true := h
  rw [Bool.and_eq_true, decide_eq_true_eq, List.all_eq_true] at h
  refine ⟨h.1, fun z hz => ?_⟩
  have := h.2 z hz
  cases z with
  | str x => exact (show x.length ≤ 1000 from of_decide_eq_true this)
  | _ => trivial
section
variable {c : Nat} {X : Er → Prop} {d : PyData} {x : Str} {a b i : Int}
theorem w_judged {Q : Bool → Nat → Prop} (hc : c < 10000) (q : ∀ d, d ≤ c + 200 → Q true d) : M.W (m__law_judged ()) c Q X := by
  simp only [m__law_judged, b__law_judged, M.to_W, M.none_W, M.bind_W, M.ret_W, M.need_W, M.the_W, M.ifb_W, M.anyOf_W, M.still_W, M.roll_W, M.pick_W, M.thn_W, M.thn_nx, M.thn_rt, M.thn_bk, M.thn_ct, M.fin_W, M.fin_rt, M.finN_W, M.finN_rt, M.finN_nx, M.FK_nx, M.FK_ct, M.FK_bk, M.FK_rt, decide_eq_true_eq, if_true, if_false, Bool.false_eq_true, Bool.not_eq_true', decide_eq_false_iff_not, Bool.not_true, Bool.not_false, ite_not]
  refine w_any_integer (by omega) fun n d1 hn hd1 => w_any_word (by omega) fun w d2 hw hd2 => ?_
  have ab : (if n < 0 then -n else n) = ((n.natAbs : Nat) : Int) := by split <;> omega
  rw [ab]
  have wn := hw.n
  refine ⟨(abs_ok hn).1, (abs_ok hn).2, w_is_integer_D (w_is_count_D (w_is_name (by omega) ⟨bools3 _ _ _, ?_⟩))⟩
  have e1 : intD (.int n) = decide (n.natAbs < 10 ^ 60) := int_abs
  have e2 : cnt0D (.int n) = (intD (.int n) && decide (0 ≤ n)) := rfl
  rw [e2, e1]
  have e3 : decide (((Str.ofString (toString ((n.natAbs : Nat) : Int))).length : Int) ≤ 60) = decide (n.natAbs < 10 ^ 60) := by
    congr 1; exact propext abs_len
  rw [e3]
  split
  all_goals
    rename_i hs
    refine w_lettered hw ⟨bools3 _ _ _, (if_pos (by first | rw [decide_eq_true (abs_len.mp hs), Bool.true_and] | rw [decide_eq_false (fun z => hs (abs_len.mpr z)), Bool.false_and])).mpr ?_⟩
    refine ⟨by omega, by omega, bd_sm (by decide) (by decide), fun r r0 r1 => ⟨⟨by omega, by omega⟩, by rw [rng_len]; omega, ?_⟩⟩
    refine M.lcM_inv (fun i ys d => d ≤ d2 + 1 + 20 * i ∧ ys.length = i ∧ ∀ x ∈ ys, wOk x) ⟨by omega, rfl, fun _ h => by cases h⟩ ?_ ?_
    · rintro i a ys d hi ⟨h1, h2, h3⟩
      have hi0 := (List.getElem?_eq_some_iff.mp hi).1
      rw [rng_len] at hi0
      simp only [M.to_W, M.none_W, M.bind_W, M.ret_W, M.need_W, M.the_W, M.ifb_W, M.anyOf_W, M.still_W, M.roll_W, M.pick_W, M.thn_W, M.thn_nx, M.thn_rt, M.thn_bk, M.thn_ct, M.fin_W, M.fin_rt, M.finN_W, M.finN_rt, M.finN_nx, M.FK_nx, M.FK_ct, M.FK_bk, M.FK_rt, decide_eq_true_eq, if_true, if_false, Bool.false_eq_true, Bool.not_eq_true', decide_eq_false_iff_not, Bool.not_true, Bool.not_false, ite_not]
      refine w_any_word (by omega) fun x d hx hd => ⟨by omega, ?_, fun y hy => ?_⟩
      · show (ys ++ [x]).length = _
        rw [List.length_append, h2]; rfl
      · rcases List.mem_append.mp hy with hy | hy
        · exact h3 y hy
        · have hy : y ∈ [x] := hy
          rw [List.mem_singleton.mp hy]; exact hx
    · rintro ys d ⟨h1, h2, h3⟩
      rw [rng_len] at h1 h2
      refine w_are_names (fun x hx => by have := (h3 x hx).n; omega) (by omega) ⟨bool1 _, by omega, ?_⟩
      refine M.lcM_filter (g := fun s => if wdB s = true then none else some s) (fun s hs Q q => ?_) ?_
      · simp only [M.to_W, M.none_W, M.bind_W, M.ret_W, M.need_W, M.the_W, M.ifb_W, M.anyOf_W, M.still_W, M.roll_W, M.pick_W, M.thn_W, M.thn_nx, M.thn_rt, M.thn_bk, M.thn_ct, M.fin_W, M.fin_rt, M.finN_W, M.finN_rt, M.finN_nx, M.FK_nx, M.FK_ct, M.FK_bk, M.FK_rt, decide_eq_true_eq, if_true, if_false, Bool.false_eq_true, Bool.not_eq_true', decide_eq_false_iff_not, Bool.not_true, Bool.not_false, ite_not]
        refine w_lettered (h3 s hs) ?_
        cases z : wdB s with
        | true => rw [z] at q; exact (if_neg (by simp)).mpr (by simpa using q)
        | false => rw [z] at q; exact (if_pos (by simp)).mpr (by simpa using q)
      · refine ⟨⟨lay_drop fun s hs => (h3 s hs).ok, by simp [PyData.canLay0, PyData.canLayAll0]⟩, bool1 _, ?_⟩
        rw [nil_eqv]
        refine (if_pos rfl).mpr ⟨by omega, by simp, by simp, fun x hx => ?_⟩
        have kx : (intD x = false ∧ cnt0D x = false ∧ namD x = false ∧ nmsD x = false) ∧ shB x = true := by
          revert x; decide +kernel
        obtain ⟨⟨k1, k2, k3, k4⟩, k5⟩ := kx
        refine w_is_integer_D (w_is_count_D (w_is_name_D (shB_sh k5) (w_are_names_D (shB_tup k5) ?_)))
        rw [k1, k2, k3, k4]
        refine ⟨⟨by omega, by omega, sizeL (by decide)⟩, ⟨by decide +kernel, by decide +kernel⟩, ?_⟩
        rw [show (PyData.list ([false, false, false, false].map PyData.bool)).eqv (PyData.list ((List.replicate (Int.toNat 4) [false]).flatten.map PyData.bool)) = true by decide +kernel]
        exact q _ (by omega)
end
def dic0 : PyData → Bool
  | .dict [] => true
  | _ => false
def okB (d : PyData) : Bool := (d.showable && !d.hasDict && decide (d.shown.length ≤ 1000) && decide (d.depth ≤ 64)) || (dic0 d && decide (d.shown.length ≤ 1000))
theorem okB_ok {d : PyData} (h : okB d = true) : ((d.showable = true ∧ d.hasDict = false ∧ d.shown.length ≤ sizeLine ∧ d.depth ≤ 64) ∨ d = .dict []) ∧ d.shown.length ≤ 1000 := by
  unfold okB at h
  rw [Bool.or_eq_true] at h
  rcases h with h | h
  · simp only [Bool.and_eq_true, decide_eq_true_eq, Bool.not_eq_true'] at h
    obtain ⟨⟨⟨h1, h2⟩, h3⟩, h4⟩ := h
    exact ⟨.inl ⟨h1, h2, sizeL (by omega), h4⟩, h3⟩
  · rw [Bool.and_eq_true, decide_eq_true_eq] at h
    refine ⟨.inr ?_, h.2⟩
    have := h.1
    cases d with
    | dict l => cases l with
      | nil => rfl
      | cons => cases this
    | _ => cases this
section
variable {c : Nat} {X : Er → Prop} {d : PyData} {x : Str} {a b i : Int}
def Says (c : Nat) (Q : Str → Nat → Prop) (e : Er) : Prop := (e.cls = "InvalidCount" ∧ okB e.val = true ∧ Q ("count " ++ e.val.shown) c) ∨ (e.cls = "InvalidOperation" ∧ Q "operation" c)
theorem w_error {th : M Unit} {Q : Str → Nat → Prop} (h : M.W th 0 (fun _ _ => Q "fine" c) (Says c Q)) : M.W (m__law_error th) c Q X := by
  simp only [m__law_error, b__law_error, M.to_W, M.none_W, M.bind_W, M.ret_W, M.need_W, M.the_W, M.ifb_W, M.anyOf_W, M.still_W, M.roll_W, M.pick_W, M.thn_W, M.thn_nx, M.thn_rt, M.thn_bk, M.thn_ct, M.fin_W, M.fin_rt, M.finN_W, M.finN_rt, M.finN_nx, M.FK_nx, M.FK_ct, M.FK_bk, M.FK_rt, decide_eq_true_eq, if_true, if_false, Bool.false_eq_true, Bool.not_eq_true', decide_eq_false_iff_not, Bool.not_true, Bool.not_false, ite_not, M.tryM_W, M.byE_W]
  refine th.mono 0 (fun _ _ z => z) (fun e z => ?_) h
  rcases z with ⟨e1, o, q⟩ | ⟨e1, q⟩
  · obtain ⟨o1, o2⟩ := okB_ok o
    have l2 : Str.length e.val.shown ≤ 1000 := o2
    have l6 : Str.length (Str.ofString "count ") = 6 := by decide
    exact .inl ⟨by rw [e1]; simp, e1, o1, sizeL (by omega), q⟩
  · exact .inr ⟨by rw [e1]; simp, .inl ⟨by rw [e1]; simp, q⟩⟩
theorem w_error_c {th : M Unit} {Q : Str → Nat → Prop} (h : ∀ (Q : Unit → Nat → Prop) (X : Er → Prop), X ⟨"InvalidCount", d⟩ → M.W th 0 Q X) (o : okB d = true) (q : Q ("count " ++ d.shown) c) : M.W (m__law_error th) c Q X := w_error (h _ _ (.inl ⟨rfl, o, q⟩))
theorem w_error_o {th : M Unit} {Q : Str → Nat → Prop} (h : ∀ (Q : Unit → Nat → Prop) (X : Er → Prop), X ⟨"InvalidOperation", .none⟩ → M.W th 0 Q X) (q : Q "operation" c) : M.W (m__law_error th) c Q X := w_error (h _ _ (.inr ⟨rfl, q⟩))
theorem w_error_f {th : M Unit} {Q : Str → Nat → Prop} (h : ∀ (Q : Unit → Nat → Prop) (X : Er → Prop), Q () 0 → M.W th 0 Q X) (q : Q "fine" c) : M.W (m__law_error th) c Q X := w_error (h _ _ q)
def longB (d : PyData) : Bool := match dTupS d with
  | some xs => decide (200 < xs.length)
  | none => false
theorem longB_ex {d : PyData} (h : longB d = true) : ∃ xs, dTupS d = some xs ∧ 200 < xs.length := by
  unfold longB at h
  cases e : dTupS d with
  | none => rw [e] at h; cases h
  | some xs => rw [e] at h; exact ⟨xs, rfl, of_decide_eq_true h⟩
theorem longB_no {d : PyData} (h : longB d = false) : ∀ xs, dTupS d = some xs → xs.length ≤ 200 := fun xs e => by
  unfold longB at h
  rw [e] at h
  have := of_decide_eq_false h
  omega
theorem count_len {d : PyData} (h : okB d = true) : Str.length (Str.ofString "count ") + d.shown.length ≤ sizeLine := by
  have := (okB_ok h).2
  have l6 : Str.length (Str.ofString "count ") = 6 := by decide
  exact sizeL (by omega)
theorem nm_cnt (k : cntD a b d = false) {i : Nat} (hb : b ≤ 1000) (hi : (i : Int) ≤ b) (ha : a = 0) (e : d = .int (i : Int)) : False := by
  subst ha e
  rw [cnt_ok (by omega) hi hb] at k
  cases k
theorem w_refused {Q : Bool → Nat → Prop} (hc : c < 10000) (q : ∀ d, d ≤ c + 200 → Q true d) : M.W (m__law_refused ()) c Q X := by
  have p60 : CPow 10 60 := ⟨by decide, by decide, by decide⟩
  have kA : (nmsD (.tuple [.str "a"]) = true ∧ longB (.tuple [.str "a"]) = false) ∧ shB (.tuple [.str "a"]) = true := by decide +kernel
  have kF : (nmsD (.tuple ((List.replicate (Int.toNat 200) [("a" : Str)]).flatten.map .str)) = true ∧ longB (.tuple ((List.replicate (Int.toNat 200) [("a" : Str)]).flatten.map .str)) = false) ∧ shB (.tuple ((List.replicate (Int.toNat 200) [("a" : Str)]).flatten.map .str)) = true := by decide +kernel
  simp only [m__law_refused, b__law_refused, M.to_W, M.none_W, M.bind_W, M.ret_W, M.need_W, M.the_W, M.ifb_W, M.anyOf_W, M.still_W, M.roll_W, M.pick_W, M.thn_W, M.thn_nx, M.thn_rt, M.thn_bk, M.thn_ct, M.fin_W, M.fin_rt, M.finN_W, M.finN_rt, M.finN_nx, M.FK_nx, M.FK_ct, M.FK_bk, M.FK_rt, decide_eq_true_eq, if_true, if_false, Bool.false_eq_true, Bool.not_eq_true', decide_eq_false_iff_not, Bool.not_true, Bool.not_false, ite_not, -List.reduceReplicate]
  refine ⟨p60, by omega, show (0 : Nat) < 9 by decide, show (9 : Nat) ≤ 1000 by decide, fun x hx => ?_⟩
  have kx : (cntD 0 701 x = false ∧ okB x = true) := by
    revert x; decide +kernel
  clear hx
  refine w_error_c (d := x) (fun Q X h => ?_) kx.2 ⟨(okB_ok kx.2).1, count_len kx.2, (if_pos rfl).mpr ⟨p60, by omega, show (0 : Nat) < 8 by decide, show (8 : Nat) ≤ 1000 by decide, fun y hy => ?_⟩⟩
  · simp only [M.to_W, M.none_W, M.bind_W, M.ret_W, M.need_W, M.the_W, M.ifb_W, M.anyOf_W, M.still_W, M.roll_W, M.pick_W, M.thn_W, M.thn_nx, M.thn_rt, M.thn_bk, M.thn_ct, M.fin_W, M.fin_rt, M.finN_W, M.finN_rt, M.finN_nx, M.FK_nx, M.FK_ct, M.FK_bk, M.FK_rt, decide_eq_true_eq, if_true, if_false, Bool.false_eq_true, Bool.not_eq_true', decide_eq_false_iff_not, Bool.not_true, Bool.not_false, ite_not, M.safe_W]
    exact w_nth_name_X rfl (fun _ => h) fun i hi e => (nm_cnt kx.1 (by decide) (by omega) rfl e).elim
  have ky : (cntD 0 100 y = false ∧ okB y = true) := by
    clear kx
    revert y; decide +kernel
  clear hy
  refine w_error_c (d := y) (fun Q X h => ?_) ky.2 ⟨(okB_ok ky.2).1, count_len ky.2, (if_pos rfl).mpr ⟨⟨by simp, by decide, by decide, show (1 : Nat) ≤ 1000 by decide⟩, by omega, show (0 : Nat) < 8 by decide, show (8 : Nat) ≤ 1000 by decide, fun z hz => ?_⟩⟩
  · simp only [M.to_W, M.none_W, M.bind_W, M.ret_W, M.need_W, M.the_W, M.ifb_W, M.anyOf_W, M.still_W, M.roll_W, M.pick_W, M.thn_W, M.thn_nx, M.thn_rt, M.thn_bk, M.thn_ct, M.fin_W, M.fin_rt, M.finN_W, M.finN_rt, M.finN_nx, M.FK_nx, M.FK_ct, M.FK_bk, M.FK_rt, decide_eq_true_eq, if_true, if_false, Bool.false_eq_true, Bool.not_eq_true', decide_eq_false_iff_not, Bool.not_true, Bool.not_false, ite_not, M.safe_W]
    refine w_new_names_X rfl (shB_tup kA.2) (fun hh => ?_) (fun _ _ _ => h) fun _ n hn e => (nm_cnt ky.1 (by decide) (by omega) rfl e).elim
    rcases hh with hh | ⟨xs, e, l⟩
    · rw [kA.1.1] at hh; cases hh
    · have := longB_no kA.1.2 xs e; omega
  have kz : (nmsD z = false ∨ longB z = true) ∧ shB z = true := by
    clear kx ky
    revert z; decide +kernel
  clear hz
  refine w_error_o (fun Q X h => ?_) ((if_pos rfl).mpr (w_error_f (fun Q X h => ?_) ?_))
  · simp only [M.to_W, M.none_W, M.bind_W, M.ret_W, M.need_W, M.the_W, M.ifb_W, M.anyOf_W, M.still_W, M.roll_W, M.pick_W, M.thn_W, M.thn_nx, M.thn_rt, M.thn_bk, M.thn_ct, M.fin_W, M.fin_rt, M.finN_W, M.finN_rt, M.finN_nx, M.FK_nx, M.FK_ct, M.FK_bk, M.FK_rt, decide_eq_true_eq, if_true, if_false, Bool.false_eq_true, Bool.not_eq_true', decide_eq_false_iff_not, Bool.not_true, Bool.not_false, ite_not, M.safe_W]
    refine w_new_names_X rfl (shB_tup kz.2) (fun _ => h) (fun h1 h2 _ => ?_) fun h1 n hn e xs ex l => ?_
    · rcases kz.1 with k | k
      · rw [k] at h1; cases h1
      · obtain ⟨xs, e, l⟩ := longB_ex k
        have := h2 xs e; omega
    · exact (nm_cnt ky.1 (by decide) (by omega) rfl e).elim
  · simp only [M.to_W, M.none_W, M.bind_W, M.ret_W, M.need_W, M.the_W, M.ifb_W, M.anyOf_W, M.still_W, M.roll_W, M.pick_W, M.thn_W, M.thn_nx, M.thn_rt, M.thn_bk, M.thn_ct, M.fin_W, M.fin_rt, M.finN_W, M.finN_rt, M.finN_nx, M.FK_nx, M.FK_ct, M.FK_bk, M.FK_rt, decide_eq_true_eq, if_true, if_false, Bool.false_eq_true, Bool.not_eq_true', decide_eq_false_iff_not, Bool.not_true, Bool.not_false, ite_not, M.safe_W, -List.reduceReplicate]
    refine ⟨⟨by simp, by decide, by decide, show (1 : Nat) ≤ 1000 by decide⟩, w_new_names_X rfl (shB_tup kF.2) (fun hh => ?_) (fun _ _ k => ?_) fun _ _ _ _ _ _ _ => h⟩
    · rcases hh with hh | ⟨xs, e, l⟩
      · rw [kF.1.1] at hh; cases hh
      · have := longB_no kF.1.2 xs e; omega
    · rw [cnt_ok (by decide) (by decide) (by decide)] at k; cases k
  · rw [decide_eq_true rfl]
    exact q _ (by omega)
theorem any_str {us : List Str} {p : Str} : ((us.map PyData.str).any fun z => PyData.eqv z (PyData.str p)) = decide (p ∈ us) := by
  induction us with
  | nil => rfl
  | cons a us ih =>
    rw [List.map_cons, List.any_cons, ih]
    have e0 : PyData.eqv (PyData.str a) (PyData.str p) = decide (a = p) := by simp only [PyData.eqv]; by_cases z : a = p <;> simp [z]
    rw [e0]
    by_cases e : a = p
    · subst e; simp
    · have : p ≠ a := fun z => e z.symm
      simp [e, this]
theorem strs_eqv : ∀ xs ys : List Str, PyData.eqvAll (xs.map PyData.str) (ys.map PyData.str) = decide (xs = ys)
  | [], [] => by simp only [List.map_nil, PyData.eqvAll]; rfl
  | [], y :: ys => by simp only [List.map_nil, List.map_cons, PyData.eqvAll]; rfl
  | x :: xs, [] => by simp only [List.map_nil, List.map_cons, PyData.eqvAll]; rfl
  | x :: xs, y :: ys => by
    simp only [List.map_cons, PyData.eqvAll, strs_eqv xs ys, PyData.eqv]
    by_cases a : x = y
    · by_cases b : xs = ys <;> simp [a, b]
    · simp [a]
theorem tup_eqv (xs ys : List Str) : PyData.eqv (PyData.tuple (xs.map PyData.str)) (PyData.tuple (ys.map PyData.str)) = decide (xs = ys) := by
  simp only [PyData.eqv, strs_eqv]
theorem cutL_mid {α : Type} (xs : List α) (i j : Nat) (hij : i ≤ j) (hj : j ≤ xs.length) : cutL xs (some (i : Int)) (some (j : Int)) = (xs.take j).drop i := by
  unfold cutL
  rw [HT.sIx_nat, HT.sIx_nat, Nat.min_eq_left hj, Nat.min_eq_left (Nat.le_trans hij hj), List.drop_take]
theorem cutL_to {α : Type} (xs : List α) (i : Nat) (h : i ≤ xs.length) : cutL xs none (some (i : Int)) = xs.take i := by
  have := cutL_mid xs 0 i (Nat.zero_le _) h
  rw [List.drop_zero] at this
  exact this
structure nOk (x : Str) : Prop where
  w : wdB x = true
  ok : PyData.strOk x = true
theorem nOk.len {x : Str} (h : nOk x) : x.length ≤ 8 := by
  have := h.w
  unfold wdB at this
  rw [Bool.and_eq_true, Bool.and_eq_true, decide_eq_true_eq, decide_eq_true_eq] at this
  omega
theorem nt_ok : ∀ x ∈ NT, nOk x := fun x hx => by
  unfold NT at hx
  obtain ⟨i, hi, rfl⟩ := List.mem_map.mp hx
  have := List.mem_range.mp hi
  exact ⟨nthS_wd _ (by omega), nthS_ok _ (by omega)⟩
theorem nt200 : (rng 0 200).map (fun a => nthS a.toNat) = NT.take 200 := by
  rw [rng_eq, List.map_map]
  decide +kernel
theorem drop_filter {L ns : List Str} : L.filterMap (fun s => if s ∈ ns then none else some s) = L.filter fun s => !decide (s ∈ ns) := by
  induction L with
  | nil => rfl
  | cons s L ih =>
    rw [List.filterMap_cons, List.filter_cons, ih]
    by_cases z : s ∈ ns <;> simp [z]
theorem due {ns : List Str} {k : Nat} (h : ns.length ≤ 100) (hk : k ≤ 100) : cutL ((NT.take 200).filter fun s => !decide (s ∈ ns)) none (some (k : Int)) = newS ns k := by
  have l := new_key (ns := ns) 200 (by decide)
  rw [cutL_to _ _ (by omega)]
  unfold newS
  have ed : NT.filter (fun x => !decide (x ∈ ns)) = (NT.take 200).filter (fun x => !decide (x ∈ ns)) ++ (NT.drop 200).filter fun x => !decide (x ∈ ns) := by
    conv => lhs; rw [← List.take_append_drop 200 NT]
    rw [List.filter_append]
  rw [ed, List.take_append_of_le_length (by omega)]
theorem int_okB : ∀ k : Nat, k < 800 → okB (.int (k : Int)) = true := by decide +kernel
theorem w_listed {Q : Bool → Nat → Prop} (hc : c < 10000) (q : ∀ d, d ≤ c + 400 → Q true d) : M.W (m__law_listed ()) c Q X := by
  simp only [m__law_listed, b__law_listed, M.to_W, M.none_W, M.bind_W, M.ret_W, M.need_W, M.the_W, M.ifb_W, M.anyOf_W, M.still_W, M.roll_W, M.pick_W, M.thn_W, M.thn_nx, M.thn_rt, M.thn_bk, M.thn_ct, M.fin_W, M.fin_rt, M.finN_W, M.finN_rt, M.finN_nx, M.FK_nx, M.FK_ct, M.FK_bk, M.FK_rt, decide_eq_true_eq, if_true, if_false, Bool.false_eq_true, Bool.not_eq_true', decide_eq_false_iff_not, Bool.not_true, Bool.not_false, ite_not]
  refine ⟨by omega, show (0 : Nat) < 6 by decide, show (6 : Nat) ≤ 1000 by decide, fun x hx => ⟨by omega, by omega, bd_sm (by decide) (by decide), fun r r0 r1 => ?_⟩⟩
  have hx : 0 ≤ x ∧ x ≤ 690 := by
    revert x; decide
  obtain ⟨k, ek⟩ : ∃ k : Nat, x + r = k := ⟨(x + r).toNat, by omega⟩
  rw [ek]
  by_cases z : (701 : Int) < (k : Int)
  · have o := int_okB k (by omega)
    refine (if_pos z).mpr (w_error_c (d := .int (k : Int)) (fun Q X h => ?_) o ⟨?_, count_len o, ?_⟩)
    · simp only [M.to_W, M.none_W, M.bind_W, M.ret_W, M.need_W, M.the_W, M.ifb_W, M.anyOf_W, M.still_W, M.roll_W, M.pick_W, M.thn_W, M.thn_nx, M.thn_rt, M.thn_bk, M.thn_ct, M.fin_W, M.fin_rt, M.finN_W, M.finN_rt, M.finN_nx, M.FK_nx, M.FK_ct, M.FK_bk, M.FK_rt, decide_eq_true_eq, if_true, if_false, Bool.false_eq_true, Bool.not_eq_true', decide_eq_false_iff_not, Bool.not_true, Bool.not_false, ite_not, M.safe_W]
      exact w_nth_name_X rfl (fun _ => h) fun i hi e => by cases e; omega
    · rcases (okB_ok o).1 with h | h
      · exact h
      · cases h
    · rw [decide_eq_true rfl]
      exact q _ (by omega)
  refine (if_neg z).mpr (w_nth_name rfl (by omega) (w_lnth rfl (by omega) ((if_pos rfl).mpr ⟨by omega, by omega, bd_sm (by decide) (by decide), fun s s0 s1 => ⟨⟨by omega, by omega⟩, by rw [rng_len]; omega, ?_⟩⟩)))
  refine M.lcM_inv (fun i ys d => d ≤ c + 3 + 2 * i ∧ ys.length = i ∧ ∀ x ∈ ys, nOk x) ⟨by omega, rfl, fun _ h => by cases h⟩ ?_ ?_
  · rintro i a ys d hi ⟨h1, h2, h3⟩
    have hi0 := (List.getElem?_eq_some_iff.mp hi).1
    rw [rng_len] at hi0
    simp only [M.to_W, M.none_W, M.bind_W, M.ret_W, M.need_W, M.the_W, M.ifb_W, M.anyOf_W, M.still_W, M.roll_W, M.pick_W, M.thn_W, M.thn_nx, M.thn_rt, M.thn_bk, M.thn_ct, M.fin_W, M.fin_rt, M.finN_W, M.finN_rt, M.finN_nx, M.FK_nx, M.FK_ct, M.FK_bk, M.FK_rt, decide_eq_true_eq, if_true, if_false, Bool.false_eq_true, Bool.not_eq_true', decide_eq_false_iff_not, Bool.not_true, Bool.not_false, ite_not]
    refine ⟨by omega, show (0 : Nat) < 3 by decide, show (3 : Nat) ≤ 1000 by decide, fun y hy => ?_⟩
    have hy : 1 ≤ y ∧ y ≤ 120 := by
      revert y; decide
    refine ⟨by omega, by omega, bd_sm (by omega) (by decide), fun t t0 t1 => ?_⟩
    obtain ⟨j, rfl⟩ := Int.eq_ofNat_of_zero_le t0
    refine w_lnth rfl (by omega) ⟨by omega, ?_, fun w hw => ?_⟩
    · show (ys ++ [_]).length = _
      rw [List.length_append, h2]; rfl
    · rcases List.mem_append.mp hw with hw | hw
      · exact h3 w hw
      · have hw : w ∈ [nthS j] := hw
        rw [List.mem_singleton.mp hw]
        exact ⟨nthS_wd _ (by omega), nthS_ok _ (by omega)⟩
  · rintro ys d ⟨h1, h2, h3⟩
    rw [rng_len] at h1 h2
    have five : ∀ y ∈ ([("pieces" : Str), "zzzzzzzz", "ab", "a", "b"] : List Str), wdB y = true ∧ PyData.strOk y = true := by decide +kernel
    refine w_some (by omega) (show (5 : Nat) ≤ 100 by decide) fun zs d2 hz hz2 hd2 => ⟨sizeL (by have : zs.length ≤ 5 := hz2; omega), ?_⟩
    have hz2 : zs.length ≤ 5 := hz2
    have hl : (ys ++ zs).length ≤ 44 := by rw [List.length_append]; omega
    have hn : ∀ x ∈ ys ++ zs, nOk x := fun x hx => by
      rcases List.mem_append.mp hx with hx | hx
      · exact h3 x hx
      · have := five x (hz x hx)
        exact ⟨this.1, this.2⟩
    refine w_mixed (by omega) (by omega) fun ns d3 hp hd3 => ⟨by omega, show (0 : Nat) < 6 by decide, show (6 : Nat) ≤ 1000 by decide, fun t ht => ⟨⟨by omega, by omega⟩, by rw [rng_len]; decide, ?_⟩⟩
    have hl : ns.length ≤ 44 := by rw [hp.length_eq]; exact hl
    have hn : ∀ x ∈ ns, nOk x := fun x hx => hn x (hp.mem_iff.mp hx)
    have ht : 0 ≤ t ∧ t ≤ 100 := by
      clear hd3 hd2
      revert t; decide
    obtain ⟨k, rfl⟩ := Int.eq_ofNat_of_zero_le ht.1
    refine M.lcM_map (g := fun a => nthS a.toNat) (fun a ha Q q => ?_) ?_
    · have ha := rng_mem.mp ha
      obtain ⟨j, rfl⟩ := Int.eq_ofNat_of_zero_le ha.1
      simp only [M.to_W, M.none_W, M.bind_W, M.ret_W, M.need_W, M.the_W, M.ifb_W, M.anyOf_W, M.still_W, M.roll_W, M.pick_W, M.thn_W, M.thn_nx, M.thn_rt, M.thn_bk, M.thn_ct, M.fin_W, M.fin_rt, M.finN_W, M.finN_rt, M.finN_nx, M.FK_nx, M.FK_ct, M.FK_bk, M.FK_rt, decide_eq_true_eq, if_true, if_false, Bool.false_eq_true, Bool.not_eq_true', decide_eq_false_iff_not, Bool.not_true, Bool.not_false, ite_not]
      exact w_lnth rfl (by omega) q
    rw [nt200]
    have cn : (PyData.list (ns.map .str)).canLay0 = true := by
      rw [PyData.canLay0]; exact all_lay fun s hs => (hn s hs).ok
    refine ⟨by rw [List.length_take]; omega, M.lcM_filter (g := fun s => if s ∈ ns then none else some s) (fun s hs Q q => ?_) ?_⟩
    · have os := (nt_ok s (List.mem_of_mem_take hs)).ok
      simp only [M.to_W, M.none_W, M.bind_W, M.ret_W, M.need_W, M.the_W, M.ifb_W, M.anyOf_W, M.still_W, M.roll_W, M.pick_W, M.thn_W, M.thn_nx, M.thn_rt, M.thn_bk, M.thn_ct, M.fin_W, M.fin_rt, M.finN_W, M.finN_rt, M.finN_nx, M.FK_nx, M.FK_ct, M.FK_bk, M.FK_rt, decide_eq_true_eq, if_true, if_false, Bool.false_eq_true, Bool.not_eq_true', decide_eq_false_iff_not, Bool.not_true, Bool.not_false, ite_not]
      refine ⟨⟨by rw [PyData.canLay0]; exact os, cn⟩, ?_⟩
      rw [any_str]
      by_cases y : s ∈ ns
      · rw [if_pos y] at q
        exact (if_neg (by simp [y])).mpr q
      · rw [if_neg y] at q
        exact (if_pos (by simp [y])).mpr q
    · rw [drop_filter, due (by omega) (by omega)]
      have wn : ns.all wdB = true := List.all_eq_true.mpr fun s hs => (hn s hs).w
      have on : ∀ s ∈ newS ns k, PyData.strOk s = true := fun s hs => (nt_ok s (List.mem_filter.mp (List.mem_of_mem_take hs)).1).ok
      refine w_new_names rfl (fun s hs => by have := (hn s hs).len; omega) wn (by omega) (by omega) ⟨⟨by rw [PyData.canLay0]; exact all_lay on, by rw [PyData.canLay0]; exact all_lay on⟩, ?_⟩
      rw [tup_eqv, decide_eq_true rfl]
      exact q _ (by omega)
end
end PF2
namespace PF
open PySem PySem.Spec PyProof.Rows L2 SlX
theorem gerr_of {P : Program} {K : PySem.W.Frag} {mg : Str → Option Value} {x f : Str} {C fI : Addr} {B newId i : String} {bm : List Value} {qual vn msg file : Str} {params : Arguments} {body : List Stmt} {scope : Scope} {p0 p1 p2 p3 pe p5 p6 p7 p8 pc : Pos} {j : Nat} {pl : Sem Bool}
    (T : PEI.TailB B newId i bm) (t : InitT qual vn f msg params body scope p0 p1 p2 p3 pe p5 p6 p7 p8 pc j pl) (pf : P.main.file = file) (pt : (P.main.scope.names.lookup ("super" : Str)).isSome = false)
    (e1 : PEO.errB K C bm newId = true) (e2 : PEO.fwC K fI = PEO.fwCV "__init__" qual params body scope) (e3 : PEO.codeB K fI = true) (e4 : PySem.W.codeIn K (.ref (PEO.codeA K fI)) qual = true) (e5 : PEO.cellB K (PEO.cellA K fI) C = true) (e6 : PEO.fileB K (PEO.codeA K fI) file = true)
    (e7 : PySem.W.nsIn K cStatics "thirdparty.any" = some none) (e8 : PySem.W.findIn K (.ref C) "__setattr__" = some (some (.builtin "object.__setattr__"))) (e9 : PySem.W.findIn K (.ref C) f = some none) (e10 : PySem.W.excOver K C bm = true)
    (e11 : PySem.W.subIn K (.ref C) (.type "BaseException") = some true) (e12 : PySem.W.typeIn K (.ref C) = some (.type "type")) (e13 : PySem.W.keepIn K (.ref C) = true) (e14 : PySem.W.findIn K (.ref C) "__init__" = some (some (.ref fI))) (e15 : PySem.W.typeIn K (.ref fI) = some (.type "function"))
    (gl : mg x = some (.ref C)) (sup : mg "super" = none) (xf : xfB K C = true) : GErr P K mg x f C := by
  obtain ⟨oc, od, sl, kV, dc, pm, an, ct, lk⟩ := PEO.fwC_ok e2 e3
  obtain ⟨ccl, cdd, vs, ccs, tf, h1, h2⟩ := PEO.fileB_ok e6
  exact ⟨⟨B, newId, i, bm, fI, PEO.cellA K fI, PEO.codeA K fI, qual, vn, msg, params, body, scope, kV, dc, pm, ct, an, p0, p1, p2, p3, pe, p5, p6, p7, p8, pc, j, pl, T,
    ⟨⟨PEO.errB_ok e1, ⟨oc, od, sl, lk⟩, e4, PEO.cellB_ok e5, ⟨ccl, cdd, vs, ccs, tf, h1, by rw [pf]; exact h2⟩, pt, e7, e8, e9, e10⟩, e11, e12, e13, e14, e15⟩, t⟩, gl, sup, xfB_ok xf, e9⟩
end PF
set_option maxHeartbeats 4000000
namespace PF2
open PF PySem PySem.Spec PyProof.Rows L2 SlX
theorem init_InvalidCount : ∃ p0 p1 p2 p3 pe p5 p6 p7 p8 pc j pl, InitT "InvalidCount.__init__" "value" "value" "a number of things is not in its range" (defArgs (inClass (topS 3) 0)) (defBody (inClass (topS 3) 0)) (defScope (inClass (topS 3) 0)) p0 p1 p2 p3 pe p5 p6 p7 p8 pc j pl :=
  ⟨_, _, _, _, _, _, _, _, _, _, _, _, ⟨rfl, by decide +kernel, by decide +kernel, by decide +kernel, by decide +kernel, rfl, by decide +kernel, rfl, rfl, by decide +kernel, by decide +kernel, by decide +kernel, fun L fI cc cdv => rfl, fun L fI cc cdv => rfl, fun L fI cc cdv => rfl, fun L fI cc cdv => rfl, fun kV doc pm cdv ct a u an cc => rfl⟩⟩
end PF2
set_option maxHeartbeats 1000000
namespace PF
open PySem PySem.Spec PyProof.Rows L2 SlX
def noT (H : Hp) : Hp := fun b => match H b with
  | some (.tbl _) => none
  | o => o
theorem noT_at {H : Hp} {b : Addr} {o : HO} (h : H b = some o) (nt : ntB o = true) : noT H b = some o := by
  unfold noT
  rw [h]
  cases o <;> first | rfl | cases nt
theorem noT_sub {H : Hp} : Same (noT H) H := fun b o h => by
  unfold noT at h
  cases z : H b with
  | none => rw [z] at h; cases h
  | some u => rw [z] at h; cases u <;> first | exact h | cases h
def TbS (H : Hp) : Prop := TbA (noT H) H
theorem TbS.of {F H : Hp} (t : TbA F H) (s : Same F H) : TbS H := fun p hp => by
  obtain ⟨_, ps, h1, h2, h3⟩ := t p hp
  refine ⟨by unfold noT; rw [h1], ps, h1, h2, fun pos cv hc => ?_⟩
  obtain ⟨c, e, hc⟩ := h3 pos cv hc
  exact ⟨c, e, noT_at (s _ _ hc) rfl⟩
theorem TbS.go {H H' : Hp} (t : TbS H) (s : Same H H') : TbA (noT H) H' := fun p hp => (t p hp).go (t p hp).1 (fun o z => s p.1 o z) (Same.refl _)
theorem TbS.empty {H : Hp} (h : ∀ p ∈ tbN, H p.1 = some (.tbl #[])) : TbS H := fun p hp => ⟨by unfold noT; rw [h p hp], #[], h p hp, trivial, fun pos cv z => by cases z⟩
theorem noT_seq {K : PySem.W.Frag} {H : Hp} {a : Addr} {vs : List V} (h : SqL K H a vs) : SqL K (noT H) a vs := by
  rcases h with h | h
  · rcases h with h | ⟨o, h⟩
    · exact .inl (.inl (noT_at h rfl))
    · exact .inl (.inr ⟨o, noT_at h rfl⟩)
  · exact .inr h
def spCellsT (K : PySem.W.Frag) : Sp := fun vs H Q _ => ∃ (a : Addr) (ns : List Int), vs = [.ref a] ∧ SqL K H a (ns.map V.int) ∧ ns.length ≤ 100 ∧ (∀ p ∈ tbN, H p.1 = some (.tbl #[])) ∧ ∀ H', Q (.bl true) H'
def CellsT (K : PySem.W.Frag) (n : Nat) (ns : List Int) (σ : L2.St) (H : Hp) : Prop := (∃ a τ, σ = some (.ref a) :: τ ∧ τ.length = n ∧ SqL K H a (ns.map V.int)) ∧ TbS H
theorem unT_any0 {p : Option Addr} {H0 F H : Hp} {τ : L2.St} (t : TbA F H) (h : τ.length = 0) : eTab.r p H0 F H τ () := ⟨List.length_eq_zero_iff.mp h, t⟩
theorem unT_own0 (τ : L2.St) : eTab.owns τ = [] := rfl
theorem unT_len0 {p : Option Addr} {H0 F H : Hp} {τ : L2.St} {ρ : Unit} (h : eTab.r p H0 F H τ ρ) : τ.length = 0 ∧ TbA F H := by
  obtain ⟨h, t⟩ := h
  exact ⟨by rw [h]; rfl, t⟩
theorem unT_lenS {Γ : Type} {E : EV Γ} {n : Nat} (h : ∀ {p : Option Addr} {H0 F H : Hp} {τ : L2.St} {ρ : Γ}, E.r p H0 F H τ ρ → τ.length = n ∧ TbA F H) {p : Option Addr} {H0 F H : Hp} {τ : L2.St} {ρ : Unit × Γ} (r : (eCons sUn E).r p H0 F H τ ρ) : τ.length = n + 1 ∧ TbA F H := by
  obtain ⟨o, τ', rfl, _, r⟩ := r
  exact ⟨by rw [List.length_cons, (h r).1], (h r).2⟩
theorem walk_bodyT {K : PySem.W.Frag} {Γ Γ' Δ : Type} {E : EV Γ} {E' : EV Γ'} {El : EV Δ} {t : TS} {mb : (List Int × Unit × Unit × Γ) → M (Ct (List Int × Γ') Δ Bool)} {ρ0 : Γ} {n : Nat}
    (hb : SS md0 (eCons (sVal (rLst K rInt)) (eCons sUn (eCons sDice E))) (eCons (sVal (rLst K rInt)) E') El rBl t mb)
    (hE : ∀ {p H0 F H τ}, TbA F H → τ.length = n → E.r p H0 F H τ ρ0) (hO : ∀ τ, E.owns τ = []) (hL : ∀ {p H0 F H τ ρ}, E'.r p H0 F H τ ρ → τ.length = n + 2 ∧ TbA F H)
    {H : Hp} {D : Ends} {ns : List Int} {a p : Addr} {o1 : Option V} {τ : L2.St} (hτ : τ.length = n) (hS : SqL K H a (ns.map V.int)) (hd : Dice p H 0)
    {H1 : Hp} (h1 : H1 p = none) (hS1 : SqL K H1 a (ns.map V.int)) (e1 : Same H1 H) (hT : TbS H1)
    (hw : ∀ m, mb (ns, (), (), ρ0) = m → m.wp 0 (fun t _ => ∃ u, t = .nx (ns, u)) (fun _ => False)) (hD : ∀ σ' H', CellsT K (n + 2) ns σ' H' → D.nx σ' H') : t D (some (.ref a) :: o1 :: some (.ref p) :: τ) H := by
  have hp0 : H p ≠ none := by obtain ⟨_, _, _, z, _⟩ := hd; rw [z]; simp
  have sF : Same (noT H1) H := noT_sub.trans e1
  have np : noT H1 p = none := noT_sub.free h1
  refine hb ⟨some p, noT H1, H⟩ (noT H1) H _ (ns, (), (), ρ0) 0 D ⟨sF, ExtX.refl sF, fun q e => by cases e; exact ⟨np, hp0, hd⟩⟩ ⟨⟨_, _, rfl, ⟨_, rfl, a, _, rfl, noT_seq hS1, ints_all ns⟩, _, _, rfl, trivial, _, _, rfl, ⟨p, rfl, rfl⟩, hE (hT.go e1) hτ⟩, ?_⟩ ?_
  · show ([] ++ ([] ++ ([] ++ E.owns τ))).Nodup
    rw [hO]; exact List.nodup_nil
  · refine (mb (ns, (), (), ρ0)).mono 0 (fun t c z => ?_) (fun er z => z.elim) (hw _ rfl)
    obtain ⟨u, rfl⟩ := z
    intro F2 H2 σ2 _ w2 e2
    obtain ⟨o, τ2, rfl, ⟨v, rfl, a2, vs, rfl, sq, al⟩, r2⟩ := e2.r
    refine hD _ _ ⟨⟨a2, τ2, rfl, (hL r2).1, ?_⟩, .of (hL r2).2 w2.sub⟩
    rw [← ints_of al]
    exact w2.sub.seq sq
end PF
set_option maxHeartbeats 2000000
namespace PF
open PySem PySem.Spec PyProof.Rows L2
def TabsE (cs : List (Addr × Addr)) (h : Heap) : Prop := ∀ p ∈ cs, h.get? p.2 = some { cls := .none, data := .fields #[] }
def OnlyT (cs : List (Addr × Addr)) (G : Hp) : Prop := ∀ b, G b = none ∨ (∃ p ∈ cs, b = p.2) ∨ ∃ o xs, G b = some (.frz o (.lst xs))
theorem law_endT {P : Program} {w : World} {K : PySem.W.Frag} {mg mb : Str → Option Value} {k : Nat} {fa a : Addr} {sp : Sp} {st : Shared} {vs : List Value} {ns : List Int} {cs : List (Addr × Addr)}
    (KX : K.In st.heap) (g1 : st.heap.Ns mainGlobals mg) (g2 : st.heap.Ns builtinsNs mb) (g3 : ∀ x : Str, x ≠ "__name__" → mb x = bootBuiltins x) (lim : st.heap.NoLimit) (gn : st.gens = #[])
    (hT : TabsE cs st.heap) (nT : ∀ p ∈ cs, K.lookup p.2 = none) (hC : ∀ p ∈ cs, PySem.W.codeHdIn K p.1 p.2 = true)
    (hbm : ∃ (bm : Addr) (ob : Obj), mg "__builtins__" = some (.ref bm) ∧ bm ≠ builtinsNs ∧ st.heap.get? bm = some ob ∧ ob.cls = .type "module" ∧ ob.dict = some builtinsNs ∧ ob.data = .plain)
    (ha : st.heap.get? a = some { cls := .type "list", data := .seq vs.toArray }) (hi : IntsAre vs ns) (hl : ns.length ≤ sizeLine) (hr : Room k callerA)
    (F : ∀ base : Heap, K.In base → base.Ns mainGlobals mg → (∀ p ∈ cs, LamX.TabB base mg p.1 p.2) → FnG P w K mg base k fa 1 sp)
    (hsp : ∀ G : Hp, OnlyT cs G → (∀ p ∈ cs, G p.2 = some (.tbl #[])) → SqL K G a (ns.map V.int) → sp [.ref a] G (fun v _ => v = .bl true) E0) :
    codeAny (model P w) callerA (.call (.ref fa) ⟨[.ref a], []⟩) (fun r s' => r = .ok (.ret (.bool true)) ∧ OldK st.heap s'.heap ∧ s'.os = st.os ∧ AllBare s'.gens) st := by
  have rv := vals_ints hi
  have lv := hi.length
  have na : ∀ p ∈ cs, p.2 ≠ a := fun p hp z => by
    have e := hT p hp
    rw [z, ha] at e
    cases e
  have core : ∀ G : Hp, OnlyT cs G → (∀ p ∈ cs, G p.2 = some (.tbl #[])) → SqL K G a (ns.map V.int) → HOk P w G st.heap → (∀ b u, G b = some u → (b = a ∧ K.lookup a = none) ∨ ∃ p ∈ cs, b = p.2) →
      codeAny (model P w) callerA (.call (.ref fa) ⟨[.ref a], []⟩) (fun r s' => r = .ok (.ret (.bool true)) ∧ OldK st.heap s'.heap ∧ s'.os = st.os ∧ AllBare s'.gens) st := by
    intro G hO hG hS ok hA
    have free : ∀ b o, st.heap.get? b = some o → ((∀ n, o.data ≠ .seq vs.toArray n) ∧ o.data ≠ .fields #[]) ∨ K.lookup b = some o → G b = none := fun b o e z => by
      cases q : G b with
      | none => rfl
      | some u =>
        rcases hA b u q with ⟨rfl, hk⟩ | ⟨p, hp, rfl⟩
        · rcases z with z | z
          · rw [ha] at e; cases e; exact absurd rfl (z.1 _)
          · rw [hk] at z; cases z
        · rcases z with z | z
          · rw [hT p hp] at e; cases e; exact absurd rfl z.2
          · rw [nT p hp] at z; cases z
    have nsK : ∀ {b : Addr} {m : Str → Option Value}, st.heap.Ns b m → (hidT st.heap G).Ns b m := fun ⟨o, es, ep, e, d, r⟩ =>
      ⟨o, es, ep, hidT_get e (free _ o e (.inl ⟨fun n z => by rw [d] at z; (cases z), fun z => by rw [d] at z; (cases z)⟩)), d, r⟩
    have kb : K.In (hidT st.heap G) := fun b o e => hidT_get (KX b o e) (free b o (KX b o e) (.inr e))
    have M : Mod K mg (hidT st.heap G) := ⟨kb, nsK g1, ⟨mb, nsK g2, g3⟩, let ⟨mc, h1, h2⟩ := lim; ⟨mc, nsK h1, h2⟩⟩
    have TB : ∀ p ∈ cs, LamX.TabB (hidT st.heap G) mg p.1 p.2 := fun p hp => by
      refine ⟨PySem.W.codeHd_of_K kb (hC p hp), ?_, fun z => ?_⟩
      · obtain ⟨bm, ob, b1, b2, b3, b4, b5, b6⟩ := hbm
        have nG : bm ≠ mainGlobals := fun q => by
          obtain ⟨o, es, ep, e, d, _⟩ := g1
          rw [← q, b3] at e
          cases e
          rw [b6] at d
          cases d
        have nP : bm ≠ p.2 := fun q => by
          rw [q, hT p hp] at b3
          cases b3
          cases b6
        exact ⟨bm, ob, b1, b2, nG, nP, hidT_get b3 (free _ _ b3 (.inl ⟨fun n z => by rw [b6] at z; (cases z), fun z => by rw [b6] at z; (cases z)⟩)), b4, b5, b6⟩
      · obtain ⟨o, es, ep, e, d, _⟩ := g1
        rw [z, hT p hp] at e
        cases e
        cases d
    have e0 : Env0 P w K mg (hidT st.heap G) callerA [] st G := ⟨rfl, M, fun b o e => of_hidT e, Nat.le_of_eq (hidT_size _ _), trivial, fun b hb => (nomatch (show b ∈ ([] : List Addr) from hb)), ok, .of_eq gn⟩
    refine codeAny_mono (F _ kb (nsK g1) TB callerA [] st G [.ref a] [.ref a] _ rfl hr e0 rfl (.cons rfl .nil) (hsp G hO hG hS)) fun rr s' h => ?_
    cases rr with
    | error e => exact h.elim
    | ok fl => cases fl with
      | next => exact h.elim
      | brk => exact h.elim
      | cont => exact h.elim
      | ret u =>
        obtain ⟨v, G', os, bare, un, ok', r', q⟩ := h
        subst q
        obtain rfl : u = Value.bool true := r'
        have tabs : ∀ p ∈ cs, ∃ more : Array Value, s'.heap.get? p.2 = some { cls := .none, data := .fields more } := fun p hp => by
          obtain ⟨more, z⟩ := un.tbls p.2 #[] (hG p hp)
          exact ⟨_, ok' p.2 _ z⟩
        have rest : ∀ b o, (¬ ∃ p ∈ cs, b = p.2) → st.heap.get? b = some o → s'.heap.get? b = some o := fun b o nb e => by
          rcases hO b with z | z | ⟨ob, xs, z⟩
          · exact un.keep b o e z (fun y => (nomatch (show b ∈ ([] : List Addr) from y))) (by simp)
          · exact absurd z nb
          · obtain ⟨e1, _⟩ := ok b _ z
            obtain ⟨e2, _⟩ := ok' b _ (un.frzs b ob _ z)
            rw [e] at e1; cases e1; exact e2
        refine ⟨rfl, ⟨fun b o e => ?_, fun b o e => ?_⟩, os, bare⟩
        · by_cases hb : ∃ p ∈ cs, b = p.2
          · obtain ⟨p, hp, rfl⟩ := hb
            obtain ⟨more, hm⟩ := tabs p hp
            have e' := hT p hp
            rw [e] at e'
            cases e'
            exact .inr (.inl ⟨((PySem.W.codeHd_of_K KX (hC p hp)).tab (hT p hp)).isCodeTable, rfl, #[], more, rfl, by rw [Array.empty_append]; exact hm⟩)
          · exact .inl (rest b o hb e)
        · by_cases hb : ∃ p ∈ cs, b = p.2
          · obtain ⟨p, hp, rfl⟩ := hb
            obtain ⟨more, hm⟩ := tabs p hp
            exact ⟨_, hm⟩
          · exact ⟨o, rest b o hb e⟩
  cases hk : K.lookup a with
  | some o =>
    have e := KX a o hk
    rw [ha] at e; cases e
    classical
    refine core (fun b => if ∃ p ∈ cs, b = p.2 then some (.tbl #[]) else none) (fun b => ?_) (fun p hp => if_pos ⟨p, hp, rfl⟩) (.inr ⟨_, vs.toArray, _, hk, rfl, rfl, rfl, by rw [List.size_toArray, lv]; exact hl, by simpa using rv⟩) (fun b u z => ?_) fun b u z => ?_
    · by_cases y : ∃ p ∈ cs, b = p.2
      · exact .inr (.inl y)
      · exact .inl (if_neg y)
    · by_cases y : ∃ p ∈ cs, b = p.2
      · have z' := (if_pos y).symm.trans z
        cases z'
        obtain ⟨p, hp, rfl⟩ := y
        exact hT p hp
      · have z' := (if_neg y).symm.trans z
        cases z'
    · by_cases y : ∃ p ∈ cs, b = p.2
      · exact .inr y
      · have z' := (if_neg y).symm.trans z
        cases z'
  | none =>
    classical
    refine core (fun b => if b = a then some (.frz { cls := .type "list", data := .seq vs.toArray } (.lst (ns.map V.int))) else if ∃ p ∈ cs, b = p.2 then some (.tbl #[]) else none) (fun b => ?_) (fun p hp => (if_neg (na p hp)).trans (if_pos ⟨p, hp, rfl⟩)) (.inl (.inr ⟨{ cls := .type "list", data := .seq vs.toArray }, if_pos rfl⟩)) (fun b u z => ?_) fun b u z => ?_
    · by_cases y : b = a
      · exact .inr (.inr ⟨_, _, if_pos y⟩)
      · by_cases y2 : ∃ p ∈ cs, b = p.2
        · exact .inr (.inl y2)
        · exact .inl ((if_neg y).trans (if_neg y2))
    · by_cases y : b = a
      · have z' := (if_pos y).symm.trans z
        cases z'; subst y
        exact ⟨ha, by rw [List.length_map]; exact hl, vs, _, rv, ha⟩
      · have z1 := (if_neg y).symm.trans z
        by_cases y2 : ∃ p ∈ cs, b = p.2
        · have z' := (if_pos y2).symm.trans z1
          cases z'
          obtain ⟨p, hp, rfl⟩ := y2
          exact hT p hp
        · have z' := (if_neg y2).symm.trans z1
          cases z'
    · by_cases y : b = a
      · exact .inl ⟨y, hk⟩
      · have z1 := (if_neg y).symm.trans z
        by_cases y2 : ∃ p ∈ cs, b = p.2
        · exact .inr y2
        · have z' := (if_neg y2).symm.trans z1
          cases z'
theorem walk_gT {l : PySem.W.OpenLaw} {n k : Nat} {q : Program} {loose : List Str} {XP : (Str → Option Value) → Heap → Prop} {YP : World → Heap → Prop} {d : DefRec} {cs : List (Addr × Addr)}
    (hn : l.most = some n) (hn2 : n ≤ sizeLine) (hdf : d.params.defaults = []) (hr : Room k callerA)
    (F : ∀ (w : World) (mg : Str → Option Value) (fa : Addr) (h : Heap), YP w h → h.Ns mainGlobals mg → mg d.name = some (.ref fa) →
      ∃ (K : PySem.W.Frag) (sp : Sp), K.In h ∧ TabsE cs h ∧ (∀ p ∈ cs, K.lookup p.2 = none) ∧ (∀ p ∈ cs, PySem.W.codeHdIn K p.1 p.2 = true) ∧
        (∀ (G : Hp) (a : Addr) (ns : List Int), ns.length ≤ n → OnlyT cs G → (∀ p ∈ cs, G p.2 = some (.tbl #[])) → SqL K G a (ns.map V.int) → sp [.ref a] G (fun v _ => v = .bl true) E0) ∧
        ∀ base : Heap, K.In base → base.Ns mainGlobals mg → (∀ p ∈ cs, LamX.TabB base mg p.1 p.2) → FnG l.prog w K mg base k fa 1 sp) :
    PySem.W.WalkO q loose XP YP l.row.toRowW d [] (fun f vs => PySem.call f vs) := by
  refine Att.attach_call hn hdf fun w _ s1 mg mb fa _ _ _ _ a vs ns Gr Y _ _ _ hmg hobj hints hlen hg => ?_
  obtain ⟨K, sp, KX, hT, nT, hC, hsp, hF⟩ := F w mg fa _ Y Gr.T.g hmg
  exact law_endT KX Gr.T.g Gr.T.b Gr.T.builtins Gr.T.nolimit hg hT nT hC Gr.T.bmain hobj hints (Nat.le_trans hlen hn2) hr hF fun G hO hG hS => hsp G a ns hlen hO hG hS
end PF
set_option maxHeartbeats 4000000
namespace PF2
open PF PySem PySem.Spec PyProof.Rows L2 SlX
section
variable {P : Program} {w : World} {K : PySem.W.Frag} {mg : Str → Option Value} {base : Heap} {f CO CN CF CE : Addr} {fd : FuncData}
theorem w_body {ns : List Int} {m : M (Ct (List Int × Unit × Unit × Unit) Unit Bool)} (e : b_lawB (ns, (), (), ()) = m) : m.wp 0 (fun t _ => ∃ u, t = .nx (ns, u)) (fun _ => False) := by
  subst e
  show M.W _ _ _ _
  have e1 := fun (c : Nat) (Q : Bool → Nat → Prop) => w_judged (c := c) (Q := Q) (X := fun _ => False)
  have e2 := fun (c : Nat) (Q : Bool → Nat → Prop) => w_listed (c := c) (Q := Q) (X := fun _ => False)
  have e3 := fun (c : Nat) (Q : Bool → Nat → Prop) => w_refused (c := c) (Q := Q) (X := fun _ => False)
  simp only [b_lawB, M.to_W, M.none_W, M.bind_W, M.ret_W, M.need_W, M.the_W, M.ifb_W, M.anyOf_W, M.still_W, M.roll_W, M.pick_W, M.thn_W, M.thn_nx, M.thn_rt, M.thn_bk, M.thn_ct, M.fin_W, M.fin_rt, M.finN_W, M.finN_rt, M.finN_nx, M.FK_nx, M.FK_ct, M.FK_bk, M.FK_rt, decide_eq_true_eq, if_true, if_false, Bool.false_eq_true, Bool.not_eq_true', decide_eq_false_iff_not, Bool.not_true, Bool.not_false, ite_not]
  generalize m__law_judged = m1 at *
  generalize m__law_listed = m2 at *
  generalize m__law_refused = m3 at *
  refine e1 _ _ (by omega) fun d1 h1 => (if_neg (by decide)).mpr (e2 _ _ (by omega) fun d2 h2 => (if_neg (by decide)).mpr (e3 _ _ (by omega) fun d3 h3 => (if_neg (by decide)).mpr ?_))
  exact ⟨((), (), ()), trivial⟩
theorem w_law {X : Er → Prop} {Q : Bool → Nat → Prop} {m : M Bool} (em : m_law = m) (q : Q true 0) : m.wp 0 Q X := by
  subst em
  show M.W _ _ _ _
  have e1 := fun (c : Nat) (Q : Str → Nat → Prop) (m : M Str) (em : m_nth_name (701, ()) = m) => w_nth_name (i := 701) (c := c) (X := X) (Q := Q) em (by decide)
  have e2 := fun (c : Nat) (Q : List Str → Nat → Prop) (m : M (List Str)) (em : m_new_names ([], 0, ()) = m) => w_new_names (ns := []) (n := 0) (c := c) (X := X) (Q := Q) em (fun _ h => by cases h) rfl (by decide) (by decide)
  simp only [m_law, b_law, M.to_W, M.none_W, M.bind_W, M.ret_W, M.need_W, M.the_W, M.ifb_W, M.anyOf_W, M.still_W, M.roll_W, M.pick_W, M.thn_W, M.thn_nx, M.thn_rt, M.thn_bk, M.thn_ct, M.fin_W, M.fin_rt, M.finN_W, M.finN_rt, M.finN_nx, M.FK_nx, M.FK_ct, M.FK_bk, M.FK_rt, decide_eq_true_eq, if_true, if_false, Bool.false_eq_true, Bool.not_eq_true', decide_eq_false_iff_not, Bool.not_true, Bool.not_false, ite_not]
  have n1 : nthS 701 = "zz" := by decide +kernel
  have n2 : newS [] 0 = [] := rfl
  refine e1 _ _ _ rfl ⟨Nat.zero_le _, e2 _ _ _ rfl ?_⟩
  rw [n1, n2]
  have k : ((PyData.list [.int 60, .int 8, .str "zz", .tuple []]).canLay0 = true ∧ (PyData.list [.int 60, .int 8, .str "zz", .tuple []]).depth ≤ 64) ∧ (PyData.list [.int 60, .int 8, .str "zz", .tuple []]).eqv (PyData.list [.int 60, .int 8, .str "zz", .tuple []]) = true := by decide +kernel
  refine ⟨rfl, rfl, ⟨k.1, k.1⟩, ?_⟩
  rw [List.map_nil, k.2]
  exact q
def tbC : List (Addr × Addr) := [(186, 184), (193, 189)]
theorem tbN_of {G : Hp} (h : ∀ p ∈ tbC, G p.2 = some (.tbl #[])) : ∀ p ∈ tbN, G p.1 = some (.tbl #[]) := fun p hp => by
  simp only [tbN, List.mem_cons, List.not_mem_nil, or_false] at hp
  rcases hp with rfl | rfl
  · exact h (186, 184) (by decide)
  · exact h (193, 189) (by decide)
abbrev spLaw (K : PySem.W.Frag) : Sp := spCellsT K
theorem ok_law (F : Fun K "law" "law" (topS 34) f fd) (bn : Binds K fd ["_law_script"] []) (G__law_dice : GD P w K mg base "_law_dice" 2 (spDice K)) (fr : Free mg) (G__law_judged : GG P w K mg base "_law_judged" 5 1 (spOfD aNil rBl m__law_judged)) (G__law_listed : GG P w K mg base "_law_listed" 10 1 (spOfDT aNil rBl m__law_listed)) (G__law_refused : GG P w K mg base "_law_refused" 11 1 (spOfDT aNil rBl m__law_refused)) (g_MAX_FIGURES : ∃ tk, mg "MAX_FIGURES" = some (.int 60 tk)) (g_MAX_LETTERS : ∃ tk, mg "MAX_LETTERS" = some (.int 8 tk)) (G_nth_name : GD P w K mg base "nth_name" 5 (spOf (aCons rInt aNil) rStr m_nth_name)) (G_new_names : GD P w K mg base "new_names" 6 (spOf (aCons (rTup K rStr) (aCons rInt aNil)) (rTup K rStr) m_new_names)) : FnG P w K mg base 12 f 1 (spCellsT K) := by
  refine PF.Fun.okG F sc_law bn (fun cdv A outer s H vs Q hgd hr h => ⟨_, (pss_cons (ps_for PassesOwn.never rfl (pi_range1 (by rfl) fr.b_range (pa_cons (pe_callB (call_max2 rfl) (by rfl) fr.b_max (by decide +kernel) (pa_cons pe_int (pa_cons (pe_callB (call_min2 rfl) (by rfl) fr.b_min (by decide +kernel) (pa_cons pe_int (pa_cons (pe_callB call_len (by rfl) fr.b_len (by decide +kernel) (pa_cons (pv 0) pa_nil)) pa_nil))) pa_nil))) pa_nil)) (pg_name (i := 1) sc_law.nd rfl (by first | exact Or.inl rfl | exact Or.inr rfl))
    (pss_cons (ps_set (i := 2) sc_law.nd rfl (by first | exact Or.inl rfl | exact Or.inr rfl) (pe_c1 G__law_dice (hr.mono (by decide)) (pa_cons (pv 0) (pa_cons (pv 1) pa_nil))))
    (pss_one (ps_if (PW.pt (pw_or (pt_not (pt_val (pe_gd G__law_judged hgd (hr.mono (by decide)) (pa_cons (pv 2) pa_nil) (by rfl)))) (pw_or (pt_not (pt_val (pe_gd G__law_listed hgd (hr.mono (by decide)) (pa_cons (pv 2) pa_nil) (by rfl)))) (pw_or1 (pt_not (pt_val (pe_gd G__law_refused hgd (hr.mono (by decide)) (pa_cons (pv 2) pa_nil) (by rfl)))))))) (pss_one (ps_ret pe_bl)) pss_nil))))
    (pss_one (ps_ret (pe_cmpR (op_eqD (have h := hu64 hr; h) : OpR _ _ (rEqD K)) (pe_lst (pa_cons (pe_glob (v := .int 60) rfl g_MAX_FIGURES.choose_spec ⟨_, rfl⟩) (pa_cons (pe_glob (v := .int 8) rfl g_MAX_LETTERS.choose_spec ⟨_, rfl⟩) (pa_cons (pe_c1 G_nth_name (hr.mono (by decide)) (pa_cons pe_int pa_nil)) (pa_cons (pe_c1 G_new_names (hr.mono (by decide)) (pa_cons (pe_tup pa_nil) (pa_cons pe_int pa_nil))) pa_nil))))) (pe_lst (pa_cons pe_int (pa_cons pe_int (pa_cons pe_str (pa_cons (pe_tup pa_nil) pa_nil))))) (nomark _))))), ?_⟩)
  obtain ⟨a, ns, rfl, hS, hl, hB, q⟩ := h
  have ln : (ns.map V.int).length = ns.length := List.length_map _
  refine ⟨_, rfl, _, (ns.map V.int).length, rfl, .inl ⟨_, hS, rfl⟩, _, _, rfl, _, _, rfl, _, rfl, ?_, ?_, ?_⟩
  · split <;> omega
  · have : (2 : Int) ^ 62 = 4611686018427387904 := by decide
    split
    · split <;> omega
    · omega
  generalize hj : (if (if ((ns.map V.int).length : Int) < 5 then ((ns.map V.int).length : Int) else 5) > 1 then (if ((ns.map V.int).length : Int) < 5 then ((ns.map V.int).length : Int) else 5) else 1) = j
  have j3 : j ≤ 5 := by
    rw [← hj]
    split
    · split <;> omega
    · omega
  refine for_range (lo := 0) (fun i σ H' => CellsT K 2 ns σ H') ⟨⟨a, _, rfl, rfl, hS⟩, .empty hB⟩ ?_ ?_
  · rintro i σ H' hi ⟨⟨a', τ, rfl, hτ, hS'⟩, hT⟩
    obtain ⟨o1, τ1, rfl, g1⟩ := len_succ hτ
    obtain ⟨o2, τ2, rfl, g2⟩ := len_succ g1
    refine ⟨_, rfl, _, rfl, a', ns, 0 + (i : Int), rfl, hS', hl, by omega, by omega, fun p H2 s2 np dd => ?_⟩
    refine walk_bodyT (E := eTab) (E' := (eCons sUn (eCons sUn eTab))) (El := eNil) (ρ0 := ()) (n := 0)
      (s_post (s_if (t_or (t_not (t_b (e_callDG rfl gt2 a_nil))) (t_or (t_not (t_b (e_callDGT rfl (hasTS (hasTS (hasTS hasT0))) gt2 a_nil))) (t_not (t_b (e_callDGT rfl (hasTS (hasTS (hasTS hasT0))) gt2 a_nil))))) (s_ret e_bl) s_nil) (wk_fg (fg_keep (fg_keep (fg_un fg_idG))))) unT_any0 unT_own0 (unT_lenS (unT_lenS unT_len0)) g2 (s2.seq hS') dd np hS' s2 hT ?_ (fun σ' H3 c => c)
    exact fun m e => w_body e
  rintro σ H1 ⟨⟨a', τ, rfl, hτ, _⟩, _⟩
  obtain ⟨o1, τ1, rfl, g1⟩ := len_succ hτ
  obtain ⟨o2, τ2, rfl, g2⟩ := len_succ g1
  obtain rfl := List.length_eq_zero_iff.mp g2
  dsimp only
  refine walk_tail (E := (eCons sUn (eCons sUn (eCons sUn eNil)))) (ρ0 := ((), ((), ((), ())))) (s_ret (e_op o_eqDt (e_datL (SN.se (n_lst (hom_cons (hom_cons (hom_cons (hom_cons hom_nil)))) (a_cons (e_dat dp_int e_int) (a_cons (e_dat dp_int e_int) (a_cons (e_dat dp_str (e_call (a_cons e_int a_nil))) (a_cons (e_dat (dp_tup dp_str) (e_call (a_cons (e_tupL (Ra := rStr) al_nil) (a_cons e_int a_nil)))) a_nil)))) (le_n 4)))) (e_datL (SN.se (n_lst (hom_cons (hom_cons (hom_cons (hom_cons hom_nil)))) (a_cons (e_dat dp_int e_int) (a_cons (e_dat dp_int e_int) (a_cons (e_dat dp_str e_str) (a_cons (e_dat (dp_tx dpa_nil) (e_tup a_nil (le_n 0))) a_nil)))) (le_n 4)))))) ?_ ?_ q
  · exact ⟨⟨_, _, rfl, trivial, _, _, rfl, trivial, _, _, rfl, trivial, rfl⟩, List.nodup_nil⟩
  · exact fun m e => w_law e rfl
end
end PF2
namespace PF
open PySem PySem.Spec PyProof.Rows L2 SlX
end PF
namespace PF2
open PF PySem PySem.Spec PyProof.Rows L2 SlX
theorem all_mk {prog : Program} {w : World} {K : PySem.W.Frag} {h : Heap} {mg : Str → Option Value} {fa : Addr} (X : K.In h) (G : h.Ns mainGlobals mg) (hfa : mg "law" = some (.ref fa))
    {ft0 : Addr} {odt0 ant0 : Option Addr} {slt0 : Array (Option Value)} {oct0 kVt0 dct0 pmt0 cdt0 ctt0 : Value}
    {ft1 : Addr} {odt1 ant1 : Option Addr} {slt1 : Array (Option Value)} {oct1 kVt1 dct1 pmt1 cdt1 ctt1 : Value}
    {ft2 : Addr} {odt2 ant2 : Option Addr} {slt2 : Array (Option Value)} {oct2 kVt2 dct2 pmt2 cdt2 ctt2 : Value}
    {ft3 : Addr} {odt3 ant3 : Option Addr} {slt3 : Array (Option Value)} {oct3 kVt3 dct3 pmt3 cdt3 ctt3 : Value}
    {ft4 : Addr} {odt4 ant4 : Option Addr} {slt4 : Array (Option Value)} {oct4 kVt4 dct4 pmt4 cdt4 ctt4 : Value}
    {ft5 : Addr} {odt5 ant5 : Option Addr} {slt5 : Array (Option Value)} {oct5 kVt5 dct5 pmt5 cdt5 ctt5 : Value}
    {ft6 : Addr} {odt6 ant6 : Option Addr} {slt6 : Array (Option Value)} {oct6 kVt6 dct6 pmt6 cdt6 ctt6 : Value}
    {ft7 : Addr} {odt7 ant7 : Option Addr} {slt7 : Array (Option Value)} {oct7 kVt7 dct7 pmt7 cdt7 ctt7 : Value}
    {ft8 : Addr} {odt8 ant8 : Option Addr} {slt8 : Array (Option Value)} {oct8 kVt8 dct8 pmt8 cdt8 ctt8 : Value}
    {A_InvalidCount fI_InvalidCount : Addr}
    {ft9 : Addr} {odt9 ant9 : Option Addr} {slt9 : Array (Option Value)} {oct9 kVt9 dct9 pmt9 cdt9 ctt9 : Value}
    {ft10 : Addr} {odt10 ant10 : Option Addr} {slt10 : Array (Option Value)} {oct10 kVt10 dct10 pmt10 cdt10 ctt10 : Value}
    {A_InvalidOperation : Addr}
    {ft11 : Addr} {odt11 ant11 : Option Addr} {slt11 : Array (Option Value)} {oct11 kVt11 dct11 pmt11 cdt11 ctt11 : Value}
    {ft12 : Addr} {odt12 ant12 : Option Addr} {slt12 : Array (Option Value)} {oct12 kVt12 dct12 pmt12 cdt12 ctt12 : Value}
    {ft13 : Addr} {odt13 ant13 : Option Addr} {slt13 : Array (Option Value)} {oct13 kVt13 dct13 pmt13 cdt13 ctt13 : Value}
    {ft14 : Addr} {odt14 ant14 : Option Addr} {slt14 : Array (Option Value)} {oct14 kVt14 dct14 pmt14 cdt14 ctt14 : Value}
    {ft15 : Addr} {odt15 ant15 : Option Addr} {slt15 : Array (Option Value)} {oct15 kVt15 dct15 pmt15 cdt15 ctt15 : Value}
    {ft16 : Addr} {odt16 ant16 : Option Addr} {slt16 : Array (Option Value)} {oct16 kVt16 dct16 pmt16 cdt16 ctt16 : Value}
    {ft17 : Addr} {odt17 ant17 : Option Addr} {slt17 : Array (Option Value)} {oct17 kVt17 dct17 pmt17 cdt17 ctt17 : Value}
    {ft18 : Addr} {odt18 ant18 : Option Addr} {slt18 : Array (Option Value)} {oct18 kVt18 dct18 pmt18 cdt18 ctt18 : Value}
    {ft19 : Addr} {odt19 ant19 : Option Addr} {slt19 : Array (Option Value)} {oct19 kVt19 dct19 pmt19 cdt19 ctt19 : Value}
    {ft20 : Addr} {odt20 ant20 : Option Addr} {slt20 : Array (Option Value)} {oct20 kVt20 dct20 pmt20 cdt20 ctt20 : Value}
    {ft21 : Addr} {odt21 ant21 : Option Addr} {slt21 : Array (Option Value)} {oct21 kVt21 dct21 pmt21 cdt21 ctt21 : Value}
    {tkGREAT : Tok}
    {tkLETTERS : Tok}
    {tkMANY_NAMES : Tok}
    {tkMAX_FIGURES : Tok}
    {tkMAX_LETTERS : Tok}
    {tkMOST_NEW : Tok}
    {tkMOST_USED : Tok}
    (z_abs : PySem.W.nsIn K mainGlobals "abs" = some none)
    (z_all : PySem.W.nsIn K mainGlobals "all" = some none)
    (z_bool : PySem.W.nsIn K mainGlobals "bool" = some none)
    (z_divmod : PySem.W.nsIn K mainGlobals "divmod" = some none)
    (z_int : PySem.W.nsIn K mainGlobals "int" = some none)
    (z_isinstance : PySem.W.nsIn K mainGlobals "isinstance" = some none)
    (z_len : PySem.W.nsIn K mainGlobals "len" = some none)
    (z_list : PySem.W.nsIn K mainGlobals "list" = some none)
    (z_max : PySem.W.nsIn K mainGlobals "max" = some none)
    (z_min : PySem.W.nsIn K mainGlobals "min" = some none)
    (z_range : PySem.W.nsIn K mainGlobals "range" = some none)
    (z_repr : PySem.W.nsIn K mainGlobals "repr" = some none)
    (z_str : PySem.W.nsIn K mainGlobals "str" = some none)
    (z_tuple : PySem.W.nsIn K mainGlobals "tuple" = some none)
    (cn : PySem.W.specialIn K (.builtin "object.__class__") "__get__" = some (some (.builtin "getset_descriptor.__get__")))
    (ct : PySem.W.takesIn K (.builtin "object.__class__") = some true)
    (at0 : PySem.W.nsIn K mainGlobals "is_whole" = some (some (.ref ft0)))
    (lt0 : K.lookup ft0 = some ⟨oct0, odt0, .func (PySem.W.fnOf "is_whole" "is_whole" (defArgs (topS 12)) (defBody (topS 12)) (defScope (topS 12)) .none kVt0 dct0 pmt0 ant0 cdt0 ctt0), slt0⟩)
    (ct0 : PySem.W.codeIn K cdt0 "is_whole" = true)
    (kt0 : PySem.W.keepIn K (.ref ft0) = true)
    (at1 : PySem.W.nsIn K mainGlobals "_law_dice" = some (some (.ref ft1)))
    (lt1 : K.lookup ft1 = some ⟨oct1, odt1, .func (PySem.W.fnOf "_law_dice" "_law_dice" (defArgs (topS 21)) (defBody (topS 21)) (defScope (topS 21)) .none kVt1 dct1 pmt1 ant1 cdt1 ctt1), slt1⟩)
    (ct1 : PySem.W.codeIn K cdt1 "_law_dice" = true)
    (kt1 : PySem.W.keepIn K (.ref ft1) = true)
    (at2 : PySem.W.nsIn K mainGlobals "_law_roll" = some (some (.ref ft2)))
    (lt2 : K.lookup ft2 = some ⟨oct2, odt2, .func (PySem.W.fnOf "_law_roll" "_law_roll" (defArgs (topS 22)) (defBody (topS 22)) (defScope (topS 22)) .none kVt2 dct2 pmt2 ant2 cdt2 ctt2), slt2⟩)
    (ct2 : PySem.W.codeIn K cdt2 "_law_roll" = true)
    (kt2 : PySem.W.keepIn K (.ref ft2) = true)
    (at3 : PySem.W.nsIn K mainGlobals "_law_pick" = some (some (.ref ft3)))
    (lt3 : K.lookup ft3 = some ⟨oct3, odt3, .func (PySem.W.fnOf "_law_pick" "_law_pick" (defArgs (topS 23)) (defBody (topS 23)) (defScope (topS 23)) .none kVt3 dct3 pmt3 ant3 cdt3 ctt3), slt3⟩)
    (ct3 : PySem.W.codeIn K cdt3 "_law_pick" = true)
    (kt3 : PySem.W.keepIn K (.ref ft3) = true)
    (at4 : PySem.W.nsIn K mainGlobals "is_integer" = some (some (.ref ft4)))
    (lt4 : K.lookup ft4 = some ⟨oct4, odt4, .func (PySem.W.fnOf "is_integer" "is_integer" (defArgs (topS 13)) (defBody (topS 13)) (defScope (topS 13)) .none kVt4 dct4 pmt4 ant4 cdt4 ctt4), slt4⟩)
    (ct4 : PySem.W.codeIn K cdt4 "is_integer" = true)
    (kt4 : PySem.W.keepIn K (.ref ft4) = true)
    (at5 : PySem.W.nsIn K mainGlobals "is_count" = some (some (.ref ft5)))
    (lt5 : K.lookup ft5 = some ⟨oct5, odt5, .func (PySem.W.fnOf "is_count" "is_count" (defArgs (topS 14)) (defBody (topS 14)) (defScope (topS 14)) .none kVt5 dct5 pmt5 ant5 cdt5 ctt5), slt5⟩)
    (ct5 : PySem.W.codeIn K cdt5 "is_count" = true)
    (kt5 : PySem.W.keepIn K (.ref ft5) = true)
    (at6 : PySem.W.nsIn K mainGlobals "is_name" = some (some (.ref ft6)))
    (lt6 : K.lookup ft6 = some ⟨oct6, odt6, .func (PySem.W.fnOf "is_name" "is_name" (defArgs (topS 15)) (defBody (topS 15)) (defScope (topS 15)) .none kVt6 dct6 pmt6 ant6 cdt6 ctt6), slt6⟩)
    (ct6 : PySem.W.codeIn K cdt6 "is_name" = true)
    (kt6 : PySem.W.keepIn K (.ref ft6) = true)
    (at7 : PySem.W.nsIn K mainGlobals "are_names" = some (some (.ref ft7)))
    (lt7 : K.lookup ft7 = some ⟨oct7, odt7, .func (PySem.W.fnOf "are_names" "are_names" (defArgs (topS 16)) (defBody (topS 16)) (defScope (topS 16)) .none kVt7 dct7 pmt7 ant7 cdt7 ctt7), slt7⟩)
    (ct7 : PySem.W.codeIn K cdt7 "are_names" = true)
    (kt7 : PySem.W.keepIn K (.ref ft7) = true)
    (at8 : PySem.W.nsIn K mainGlobals "require_count" = some (some (.ref ft8)))
    (lt8 : K.lookup ft8 = some ⟨oct8, odt8, .func (PySem.W.fnOf "require_count" "require_count" (defArgs (topS 17)) (defBody (topS 17)) (defScope (topS 17)) .none kVt8 dct8 pmt8 ant8 cdt8 ctt8), slt8⟩)
    (ct8 : PySem.W.codeIn K cdt8 "require_count" = true)
    (kt8 : PySem.W.keepIn K (.ref ft8) = true)
    (pfile : prog.main.file = "/claim/cut.py")
    (ptop : (prog.main.scope.names.lookup ("super" : Str)).isSome = false)
    (ycs : PySem.W.nsIn K cStatics "thirdparty.any" = some none)
    (z_super : PySem.W.nsIn K mainGlobals "super" = some none)
    (xa_InvalidCount : PySem.W.nsIn K mainGlobals "InvalidCount" = some (some (.ref A_InvalidCount)))
    (yi_InvalidCount : PySem.W.findIn K (.ref A_InvalidCount) "__init__" = some (some (.ref fI_InvalidCount)))
    (ye_InvalidCount : PEO.errB K A_InvalidCount [.type "IndexError", .type "LookupError", .type "Exception", .type "BaseException", .type "object"] "IndexError.__new__" = true)
    (yf_InvalidCount : PEO.fwC K fI_InvalidCount = PEO.fwCV "__init__" "InvalidCount.__init__" (defArgs (inClass (topS 3) 0)) (defBody (inClass (topS 3) 0)) (defScope (inClass (topS 3) 0)))
    (yb_InvalidCount : PEO.codeB K fI_InvalidCount = true)
    (yk_InvalidCount : PySem.W.codeIn K (.ref (PEO.codeA K fI_InvalidCount)) "InvalidCount.__init__" = true)
    (yc_InvalidCount : PEO.cellB K (PEO.cellA K fI_InvalidCount) A_InvalidCount = true)
    (yo_InvalidCount : PEO.fileB K (PEO.codeA K fI_InvalidCount) "/claim/cut.py" = true)
    (yt_InvalidCount : PySem.W.findIn K (.ref A_InvalidCount) "__setattr__" = some (some (.builtin "object.__setattr__")))
    (yn_InvalidCount : PySem.W.findIn K (.ref A_InvalidCount) "value" = some none)
    (yv_InvalidCount : PySem.W.excOver K A_InvalidCount [.type "IndexError", .type "LookupError", .type "Exception", .type "BaseException", .type "object"] = true)
    (yx_InvalidCount : PySem.W.subIn K (.ref A_InvalidCount) (.type "BaseException") = some true)
    (yy_InvalidCount : PySem.W.typeIn K (.ref A_InvalidCount) = some (.type "type"))
    (yz_InvalidCount : PySem.W.keepIn K (.ref A_InvalidCount) = true)
    (yw_InvalidCount : PySem.W.typeIn K (.ref fI_InvalidCount) = some (.type "function"))
    (yq_InvalidCount : xfB K A_InvalidCount = true)
    (at9 : PySem.W.nsIn K mainGlobals "nth_name" = some (some (.ref ft9)))
    (lt9 : K.lookup ft9 = some ⟨oct9, odt9, .func (PySem.W.fnOf "nth_name" "nth_name" (defArgs (topS 18)) (defBody (topS 18)) (defScope (topS 18)) .none kVt9 dct9 pmt9 ant9 cdt9 ctt9), slt9⟩)
    (ct9 : PySem.W.codeIn K cdt9 "nth_name" = true)
    (kt9 : PySem.W.keepIn K (.ref ft9) = true)
    (at10 : PySem.W.nsIn K mainGlobals "new_names" = some (some (.ref ft10)))
    (lt10 : K.lookup ft10 = some ⟨oct10, odt10, .func (PySem.W.fnOf "new_names" "new_names" (defArgs (topS 19)) (defBody (topS 19)) (defScope (topS 19)) .none kVt10 dct10 pmt10 ant10 cdt10 ctt10), slt10⟩)
    (ct10 : PySem.W.codeIn K cdt10 "new_names" = true)
    (kt10 : PySem.W.keepIn K (.ref ft10) = true)
    (xa_InvalidOperation : PySem.W.nsIn K mainGlobals "InvalidOperation" = some (some (.ref A_InvalidOperation)))
    (xe_InvalidOperation : PySem.W.excIn K A_InvalidOperation [.type "ValueError", .type "Exception", .type "BaseException", .type "object"] "ValueError.__new__" = true)
    (xk_InvalidOperation : PySem.W.keepIn K (.ref A_InvalidOperation) = true)
    (xs_InvalidOperation : PySem.W.subIn K (.ref A_InvalidOperation) (.type "BaseException") = some true)
    (xt_InvalidOperation : PySem.W.typeIn K (.ref A_InvalidOperation) = some (.type "type"))
    (at11 : PySem.W.nsIn K mainGlobals "_law_mixed" = some (some (.ref ft11)))
    (lt11 : K.lookup ft11 = some ⟨oct11, odt11, .func (PySem.W.fnOf "_law_mixed" "_law_mixed" (defArgs (topS 24)) (defBody (topS 24)) (defScope (topS 24)) .none kVt11 dct11 pmt11 ant11 cdt11 ctt11), slt11⟩)
    (ct11 : PySem.W.codeIn K cdt11 "_law_mixed" = true)
    (kt11 : PySem.W.keepIn K (.ref ft11) = true)
    (at12 : PySem.W.nsIn K mainGlobals "_law_some" = some (some (.ref ft12)))
    (lt12 : K.lookup ft12 = some ⟨oct12, odt12, .func (PySem.W.fnOf "_law_some" "_law_some" (defArgs (topS 25)) (defBody (topS 25)) (defScope (topS 25)) .none kVt12 dct12 pmt12 ant12 cdt12 ctt12), slt12⟩)
    (ct12 : PySem.W.codeIn K cdt12 "_law_some" = true)
    (kt12 : PySem.W.keepIn K (.ref ft12) = true)
    (at13 : PySem.W.nsIn K mainGlobals "_law_nth" = some (some (.ref ft13)))
    (lt13 : K.lookup ft13 = some ⟨oct13, odt13, .func (PySem.W.fnOf "_law_nth" "_law_nth" (defArgs (topS 26)) (defBody (topS 26)) (defScope (topS 26)) .none kVt13 dct13 pmt13 ant13 cdt13 ctt13), slt13⟩)
    (ct13 : PySem.W.codeIn K cdt13 "_law_nth" = true)
    (kt13 : PySem.W.keepIn K (.ref ft13) = true)
    (at14 : PySem.W.nsIn K mainGlobals "_law_error" = some (some (.ref ft14)))
    (lt14 : K.lookup ft14 = some ⟨oct14, odt14, .func (PySem.W.fnOf "_law_error" "_law_error" (defArgs (topS 27)) (defBody (topS 27)) (defScope (topS 27)) .none kVt14 dct14 pmt14 ant14 cdt14 ctt14), slt14⟩)
    (ct14 : PySem.W.codeIn K cdt14 "_law_error" = true)
    (kt14 : PySem.W.keepIn K (.ref ft14) = true)
    (at15 : PySem.W.nsIn K mainGlobals "_law_lettered" = some (some (.ref ft15)))
    (lt15 : K.lookup ft15 = some ⟨oct15, odt15, .func (PySem.W.fnOf "_law_lettered" "_law_lettered" (defArgs (topS 28)) (defBody (topS 28)) (defScope (topS 28)) .none kVt15 dct15 pmt15 ant15 cdt15 ctt15), slt15⟩)
    (ct15 : PySem.W.codeIn K cdt15 "_law_lettered" = true)
    (kt15 : PySem.W.keepIn K (.ref ft15) = true)
    (at16 : PySem.W.nsIn K mainGlobals "_law_any_word" = some (some (.ref ft16)))
    (lt16 : K.lookup ft16 = some ⟨oct16, odt16, .func (PySem.W.fnOf "_law_any_word" "_law_any_word" (defArgs (topS 29)) (defBody (topS 29)) (defScope (topS 29)) .none kVt16 dct16 pmt16 ant16 cdt16 ctt16), slt16⟩)
    (ct16 : PySem.W.codeIn K cdt16 "_law_any_word" = true)
    (kt16 : PySem.W.keepIn K (.ref ft16) = true)
    (at17 : PySem.W.nsIn K mainGlobals "_law_any_integer" = some (some (.ref ft17)))
    (lt17 : K.lookup ft17 = some ⟨oct17, odt17, .func (PySem.W.fnOf "_law_any_integer" "_law_any_integer" (defArgs (topS 30)) (defBody (topS 30)) (defScope (topS 30)) .none kVt17 dct17 pmt17 ant17 cdt17 ctt17), slt17⟩)
    (ct17 : PySem.W.codeIn K cdt17 "_law_any_integer" = true)
    (kt17 : PySem.W.keepIn K (.ref ft17) = true)
    (at18 : PySem.W.nsIn K mainGlobals "_law_judged" = some (some (.ref ft18)))
    (lt18 : K.lookup ft18 = some ⟨oct18, odt18, .func (PySem.W.fnOf "_law_judged" "_law_judged" (defArgs (topS 31)) (defBody (topS 31)) (defScope (topS 31)) .none kVt18 dct18 pmt18 ant18 cdt18 ctt18), slt18⟩)
    (ct18 : PySem.W.codeIn K cdt18 "_law_judged" = true)
    (kt18 : PySem.W.keepIn K (.ref ft18) = true)
    (at19 : PySem.W.nsIn K mainGlobals "_law_listed" = some (some (.ref ft19)))
    (lt19 : K.lookup ft19 = some ⟨oct19, odt19, .func (PySem.W.fnOf "_law_listed" "_law_listed" (defArgs (topS 32)) (defBody (topS 32)) (defScope (topS 32)) .none kVt19 dct19 pmt19 ant19 cdt19 ctt19), slt19⟩)
    (ct19 : PySem.W.codeIn K cdt19 "_law_listed" = true)
    (kt19 : PySem.W.keepIn K (.ref ft19) = true)
    (vt19 : cdt19 = .ref 186)
    (E_InvalidCount_InvalidCount : PySem.W.exmOne K (.ref A_InvalidCount) (.ref A_InvalidCount) = some true)
    (E_InvalidOperation_InvalidCount : PySem.W.exmOne K (.ref A_InvalidOperation) (.ref A_InvalidCount) = some false)
    (E_InvalidOperation_InvalidOperation : PySem.W.exmOne K (.ref A_InvalidOperation) (.ref A_InvalidOperation) = some true)
    (at20 : PySem.W.nsIn K mainGlobals "_law_refused" = some (some (.ref ft20)))
    (lt20 : K.lookup ft20 = some ⟨oct20, odt20, .func (PySem.W.fnOf "_law_refused" "_law_refused" (defArgs (topS 33)) (defBody (topS 33)) (defScope (topS 33)) .none kVt20 dct20 pmt20 ant20 cdt20 ctt20), slt20⟩)
    (ct20 : PySem.W.codeIn K cdt20 "_law_refused" = true)
    (kt20 : PySem.W.keepIn K (.ref ft20) = true)
    (vt20 : cdt20 = .ref 193)
    (at21 : PySem.W.nsIn K mainGlobals "law" = some (some (.ref ft21)))
    (lt21 : K.lookup ft21 = some ⟨oct21, odt21, .func (PySem.W.fnOf "law" "law" (defArgs (topS 34)) (defBody (topS 34)) (defScope (topS 34)) .none kVt21 dct21 pmt21 ant21 cdt21 ctt21), slt21⟩)
    (ct21 : PySem.W.codeIn K cdt21 "law" = true)
    (kt21 : PySem.W.keepIn K (.ref ft21) = true)
    (gGREAT : PySem.W.nsIn K mainGlobals "GREAT" = some (some (.int 1000000000000000000000000000000000000000000000000000000000000 tkGREAT)))
    (gLETTERS : PySem.W.nsIn K mainGlobals "LETTERS" = some (some (.str "abcdefghijklmnopqrstuvwxyz" tkLETTERS)))
    (gMANY_NAMES : PySem.W.nsIn K mainGlobals "MANY_NAMES" = some (some (.int 702 tkMANY_NAMES)))
    (gMAX_FIGURES : PySem.W.nsIn K mainGlobals "MAX_FIGURES" = some (some (.int 60 tkMAX_FIGURES)))
    (gMAX_LETTERS : PySem.W.nsIn K mainGlobals "MAX_LETTERS" = some (some (.int 8 tkMAX_LETTERS)))
    (gMOST_NEW : PySem.W.nsIn K mainGlobals "MOST_NEW" = some (some (.int 100 tkMOST_NEW)))
    (gMOST_USED : PySem.W.nsIn K mainGlobals "MOST_USED" = some (some (.int 200 tkMOST_USED)))
    : ∀ base : Heap, K.In base → base.Ns mainGlobals mg → (∀ p ∈ tbC, LamX.TabB base mg p.1 p.2) → FnG prog w K mg base 12 fa 1 (spLaw K) := by
  have e := hfa.symm.trans (PySem.W.mg_of X G at21)
  cases e
  intro base _ _ hTB
  have fr : Free mg := ⟨PySem.W.mg_none_of X G z_abs, PySem.W.mg_none_of X G z_all, PySem.W.mg_none_of X G z_bool, PySem.W.mg_none_of X G z_divmod, PySem.W.mg_none_of X G z_int, PySem.W.mg_none_of X G z_isinstance, PySem.W.mg_none_of X G z_len, PySem.W.mg_none_of X G z_list, PySem.W.mg_none_of X G z_max, PySem.W.mg_none_of X G z_min, PySem.W.mg_none_of X G z_range, PySem.W.mg_none_of X G z_repr, PySem.W.mg_none_of X G z_str, PySem.W.mg_none_of X G z_tuple⟩
  have Ft0 := fun_mk (st := topS 12) lt0 ct0 kt0
  have Bt0 := Ft0.binds (ps := ["value"]) fun _ _ _ _ _ _ us hl => match us, hl with | [_], _ => rfl
  have G_is_whole : GD prog w K mg base "is_whole" 2 (spIsWhole K) := ⟨_, _, _, PySem.W.mg_of X G at0, kt0, Bt0, PF.ok_is_whole Ft0 fr⟩
  have G_is_whole_D : GD prog w K mg base "is_whole" 2 (spOf (aCons (rDt K) aNil) rBl m_is_whole_D) := ⟨_, _, _, PySem.W.mg_of X G at0, kt0, Bt0, PF2.ok_is_whole_D Ft0 fr⟩
  have Ft1 := fun_mk (st := topS 21) lt1 ct1 kt1
  have Bt1 := Ft1.binds (ps := ["_law_script", "_law_spot"]) fun _ _ _ _ _ _ us hl => match us, hl with | [_, _], _ => rfl
  have G__law_dice : GD prog w K mg base "_law_dice" 2 (spDice K) := ⟨_, _, _, PySem.W.mg_of X G at1, kt1, Bt1, PF.ok_dice Ft1 fr⟩
  have Ft2 := fun_mk (st := topS 22) lt2 ct2 kt2
  have Bt2 := Ft2.binds (ps := ["_law_dice_here", "_law_total"]) fun _ _ _ _ _ _ us hl => match us, hl with | [_, _], _ => rfl
  have G__law_roll : GD prog w K mg base "_law_roll" 2 spRoll := ⟨_, _, _, PySem.W.mg_of X G at2, kt2, Bt2, PF.ok_roll Ft2 fr⟩
  have Ft3 := fun_mk (st := topS 23) lt3 ct3 kt3
  have Bt3 := Ft3.binds (ps := ["_law_dice_here", "_law_items"]) fun _ _ _ _ _ _ us hl => match us, hl with | [_, _], _ => rfl
  have G__law_pick : GD prog w K mg base "_law_pick" 3 spPick := ⟨_, _, _, PySem.W.mg_of X G at3, kt3, Bt3, PF.ok_pick Ft3 fr G__law_roll⟩
  have Ft4 := fun_mk (st := topS 13) lt4 ct4 kt4
  have Bt4 := Ft4.binds (ps := ["value"]) fun _ _ _ _ _ _ us hl => match us, hl with | [_], _ => rfl
  have G_is_integer_D : GD prog w K mg base "is_integer" 3 (spOf (aCons (rDt K) aNil) rBl m_is_integer_D) := ⟨_, _, _, PySem.W.mg_of X G at4, kt4, Bt4, PF2.ok_is_integer_D Ft4 G_is_whole_D ⟨_, PySem.W.mg_of X G gGREAT⟩⟩
  have Ft5 := fun_mk (st := topS 14) lt5 ct5 kt5
  have Bt5 := Ft5.binds (ps := ["value"]) fun _ _ _ _ _ _ us hl => match us, hl with | [_], _ => rfl
  have G_is_count_D : GD prog w K mg base "is_count" 4 (spOf (aCons (rDt K) aNil) rBl m_is_count_D) := ⟨_, _, _, PySem.W.mg_of X G at5, kt5, Bt5, PF2.ok_is_count_D Ft5 G_is_integer_D⟩
  have Ft6 := fun_mk (st := topS 15) lt6 ct6 kt6
  have Bt6 := Ft6.binds (ps := ["value"]) fun _ _ _ _ _ _ us hl => match us, hl with | [_], _ => rfl
  have G_is_name : GD prog w K mg base "is_name" 2 (spOf (aCons rStr aNil) rBl m_is_name) := ⟨_, _, _, PySem.W.mg_of X G at6, kt6, Bt6, PF2.ok_is_name Ft6 fr ⟨_, PySem.W.mg_of X G gMAX_LETTERS⟩ ⟨_, PySem.W.mg_of X G gLETTERS⟩⟩
  have G_is_name_D : GD prog w K mg base "is_name" 2 (spOf (aCons (rDt K) aNil) rBl m_is_name_D) := ⟨_, _, _, PySem.W.mg_of X G at6, kt6, Bt6, PF2.ok_is_name_D Ft6 fr ⟨_, PySem.W.mg_of X G gMAX_LETTERS⟩ ⟨_, PySem.W.mg_of X G gLETTERS⟩⟩
  have Ft7 := fun_mk (st := topS 16) lt7 ct7 kt7
  have Bt7 := Ft7.binds (ps := ["value"]) fun _ _ _ _ _ _ us hl => match us, hl with | [_], _ => rfl
  have G_are_names : GD prog w K mg base "are_names" 3 (spOf (aCons (rTup K rStr) aNil) rBl m_are_names) := ⟨_, _, _, PySem.W.mg_of X G at7, kt7, Bt7, PF2.ok_are_names Ft7 fr G_is_name⟩
  have G_are_names_D : GD prog w K mg base "are_names" 3 (spOf (aCons (rDt K) aNil) rBl m_are_names_D) := ⟨_, _, _, PySem.W.mg_of X G at7, kt7, Bt7, PF2.ok_are_names_D Ft7 fr G_is_name_D⟩
  have Ft8 := fun_mk (st := topS 17) lt8 ct8 kt8
  have Bt8 := Ft8.binds (ps := ["value", "least", "most"]) fun _ _ _ _ _ _ us hl => match us, hl with | [_, _, _], _ => rfl
  have G_require_count : GD prog w K mg base "require_count" 4 (spOf (aCons rInt (aCons rInt (aCons rInt aNil))) rNon m_require_count) := ⟨_, _, _, PySem.W.mg_of X G at8, kt8, Bt8, PF2.ok_require_count Ft8 G_is_integer_D⟩
  obtain ⟨_, _, _, _, _, _, _, _, _, _, _, _, it_InvalidCount⟩ := PF2.init_InvalidCount
  have Y_InvalidCount : GErr prog K mg "InvalidCount" "value" A_InvalidCount := gerr_of PEI.tb_index it_InvalidCount pfile ptop ye_InvalidCount yf_InvalidCount yb_InvalidCount yk_InvalidCount yc_InvalidCount yo_InvalidCount ycs yt_InvalidCount yn_InvalidCount yv_InvalidCount yx_InvalidCount yy_InvalidCount yz_InvalidCount yi_InvalidCount yw_InvalidCount (PySem.W.mg_of X G xa_InvalidCount) (PySem.W.mg_none_of X G z_super) yq_InvalidCount
  have R_require_count : GR prog w K mg base "require_count" 4 (spOfF K mg flE (aCons (rDt K) (aCons rInt (aCons rInt aNil))) rNon m_require_count_X) := ⟨_, _, _, PySem.W.mg_of X G at8, kt8, Bt8, PF2.ok_require_count_X Ft8 G_is_integer_D Y_InvalidCount⟩
  have Ft9 := fun_mk (st := topS 18) lt9 ct9 kt9
  have Bt9 := Ft9.binds (ps := ["index"]) fun _ _ _ _ _ _ us hl => match us, hl with | [_], _ => rfl
  have G_nth_name : GD prog w K mg base "nth_name" 5 (spOf (aCons rInt aNil) rStr m_nth_name) := ⟨_, _, _, PySem.W.mg_of X G at9, kt9, Bt9, PF2.ok_nth_name Ft9 ⟨_, PySem.W.mg_of X G gMANY_NAMES⟩ G_require_count ⟨_, PySem.W.mg_of X G gLETTERS⟩ fr⟩
  have R_nth_name : GR prog w K mg base "nth_name" 5 (spOfF K mg flE (aCons (rDt K) aNil) rStr m_nth_name_X) := ⟨_, _, _, PySem.W.mg_of X G at9, kt9, Bt9, PF2.ok_nth_name_X Ft9 ⟨_, PySem.W.mg_of X G gMANY_NAMES⟩ R_require_count ⟨_, PySem.W.mg_of X G gLETTERS⟩ fr⟩
  have Ft10 := fun_mk (st := topS 19) lt10 ct10 kt10
  have Bt10 := Ft10.binds (ps := ["names", "many"]) fun _ _ _ _ _ _ us hl => match us, hl with | [_, _], _ => rfl
  have G_new_names : GD prog w K mg base "new_names" 6 (spOf (aCons (rTup K rStr) (aCons rInt aNil)) (rTup K rStr) m_new_names) := ⟨_, _, _, PySem.W.mg_of X G at10, kt10, Bt10, PF2.ok_new_names Ft10 G_are_names fr ⟨_, PySem.W.mg_of X G gMOST_USED⟩ ⟨_, PySem.W.mg_of X G gMOST_NEW⟩ G_require_count G_nth_name⟩
  have X_InvalidOperation : GX K mg "InvalidOperation" A_InvalidOperation := ⟨xe_InvalidOperation, PySem.W.mg_of X G xa_InvalidOperation, xk_InvalidOperation, xs_InvalidOperation, xt_InvalidOperation⟩
  have R_new_names : GR prog w K mg base "new_names" 6 (spOfF K mg flE (aCons (rDt K) (aCons (rDt K) aNil)) (rTup K rStr) m_new_names_X) := ⟨_, _, _, PySem.W.mg_of X G at10, kt10, Bt10, PF2.ok_new_names_X Ft10 G_are_names_D fr ⟨_, PySem.W.mg_of X G gMOST_USED⟩ X_InvalidOperation ⟨_, PySem.W.mg_of X G gMOST_NEW⟩ R_require_count R_nth_name⟩
  have Ft11 := fun_mk (st := topS 24) lt11 ct11 kt11
  have Bt11 := Ft11.binds (ps := ["_law_dice_here", "_law_items"]) fun _ _ _ _ _ _ us hl => match us, hl with | [_, _], _ => rfl
  have G__law_mixed : GD prog w K mg base "_law_mixed" 3 (spOfD (aCons (rLs rStr) aNil) (rLs rStr) m__law_mixed) := ⟨_, _, _, PySem.W.mg_of X G at11, kt11, Bt11, PF2.ok__law_mixed Ft11 fr G__law_roll⟩
  have Ft12 := fun_mk (st := topS 25) lt12 ct12 kt12
  have Bt12 := Ft12.binds (ps := ["_law_dice_here", "_law_items"]) fun _ _ _ _ _ _ us hl => match us, hl with | [_, _], _ => rfl
  have G__law_some : GD prog w K mg base "_law_some" 3 (spOfD (aCons (rLs rStr) aNil) (rLs rStr) m__law_some) := ⟨_, _, _, PySem.W.mg_of X G at12, kt12, Bt12, PF2.ok__law_some Ft12 G__law_roll⟩
  have Ft13 := fun_mk (st := topS 26) lt13 ct13 kt13
  have Bt13 := Ft13.binds (ps := ["_law_index"]) fun _ _ _ _ _ _ us hl => match us, hl with | [_], _ => rfl
  have G__law_nth : GD prog w K mg base "_law_nth" 2 (spOf (aCons rInt aNil) rStr m__law_nth) := ⟨_, _, _, PySem.W.mg_of X G at13, kt13, Bt13, PF2.ok__law_nth Ft13 fr⟩
  have Ft14 := fun_mk (st := topS 27) lt14 ct14 kt14
  have Bt14 := Ft14.binds (ps := ["_law_call"]) fun _ _ _ _ _ _ us hl => match us, hl with | [_], _ => rfl
  have T__law_error : GTh K mg "_law_error" "_law_call" (topS 27) := ⟨⟨_, _, PySem.W.mg_of X G at14, Ft14, Bt14⟩⟩
  have Ft15 := fun_mk (st := topS 28) lt15 ct15 kt15
  have Bt15 := Ft15.binds (ps := ["_law_value"]) fun _ _ _ _ _ _ us hl => match us, hl with | [_], _ => rfl
  have G__law_lettered : GD prog w K mg base "_law_lettered" 2 (spOf (aCons rStr aNil) rBl m__law_lettered) := ⟨_, _, _, PySem.W.mg_of X G at15, kt15, Bt15, PF2.ok__law_lettered Ft15 fr⟩
  have Ft16 := fun_mk (st := topS 29) lt16 ct16 kt16
  have Bt16 := Ft16.binds (ps := ["_law_dice_here"]) fun _ _ _ _ _ _ us hl => match us, hl with | [_], _ => rfl
  have G__law_any_word : GD prog w K mg base "_law_any_word" 3 (spOfD aNil rStr m__law_any_word) := ⟨_, _, _, PySem.W.mg_of X G at16, kt16, Bt16, PF2.ok__law_any_word Ft16 G__law_roll fr⟩
  have Ft17 := fun_mk (st := topS 30) lt17 ct17 kt17
  have Bt17 := Ft17.binds (ps := ["_law_dice_here"]) fun _ _ _ _ _ _ us hl => match us, hl with | [_], _ => rfl
  have G__law_any_integer : GD prog w K mg base "_law_any_integer" 4 (spOfD aNil rInt m__law_any_integer) := ⟨_, _, _, PySem.W.mg_of X G at17, kt17, Bt17, PF2.ok__law_any_integer Ft17 G__law_pick G__law_roll⟩
  have Ft18 := fun_mk (st := topS 31) lt18 ct18 kt18
  have Bt18 := Ft18.binds (ps := ["_law_dice_here"]) fun _ _ _ _ _ _ us hl => match us, hl with | [_], _ => rfl
  have G__law_judged : GG prog w K mg base "_law_judged" 5 1 (spOfD aNil rBl m__law_judged) := ⟨_, PySem.W.mg_of X G at18, kt18, PF2.ok__law_judged Ft18 Bt18 G__law_any_integer G__law_any_word fr G_is_integer_D G_is_count_D G_is_name G__law_lettered G__law_roll G_are_names G__law_pick G_is_name_D G_are_names_D⟩
  have Ft19 := fun_mk (st := topS 32) lt19 ct19 kt19
  have Bt19 := Ft19.binds (ps := ["_law_dice_here"]) fun _ _ _ _ _ _ us hl => match us, hl with | [_], _ => rfl
  subst vt19
  have FCt19 : FunC K "_law_listed" "_law_listed" (topS 32) ft19 _ 186 := ⟨⟨_, _, _, _, _, _, _, _, rfl, lt19, ct19⟩⟩
  have G__law_listed : GG prog w K mg base "_law_listed" 10 1 (spOfDT aNil rBl m__law_listed) := ⟨_, PySem.W.mg_of X G at19, kt19, PF2.ok__law_listed FCt19 Bt19 G__law_pick G__law_roll R_nth_name T__law_error (hTB (186, 184) (by decide)) Y_InvalidCount fr E_InvalidCount_InvalidCount X_InvalidOperation E_InvalidOperation_InvalidCount E_InvalidOperation_InvalidOperation G_nth_name G__law_nth G__law_some G__law_mixed G_new_names⟩
  have Ft20 := fun_mk (st := topS 33) lt20 ct20 kt20
  have Bt20 := Ft20.binds (ps := ["_law_dice_here"]) fun _ _ _ _ _ _ us hl => match us, hl with | [_], _ => rfl
  subst vt20
  have FCt20 : FunC K "_law_refused" "_law_refused" (topS 33) ft20 _ 193 := ⟨⟨_, _, _, _, _, _, _, _, rfl, lt20, ct20⟩⟩
  have G__law_refused : GG prog w K mg base "_law_refused" 11 1 (spOfDT aNil rBl m__law_refused) := ⟨_, PySem.W.mg_of X G at20, kt20, PF2.ok__law_refused FCt20 Bt20 G__law_pick R_nth_name T__law_error (hTB (193, 189) (by decide)) Y_InvalidCount fr E_InvalidCount_InvalidCount X_InvalidOperation E_InvalidOperation_InvalidCount E_InvalidOperation_InvalidOperation R_new_names⟩
  have Ft21 := fun_mk (st := topS 34) lt21 ct21 kt21
  have Bt21 := Ft21.binds (ps := ["_law_script"]) fun _ _ _ _ _ _ us hl => match us, hl with | [_], _ => rfl
  exact PF2.ok_law Ft21 Bt21 G__law_dice fr G__law_judged G__law_listed G__law_refused ⟨_, PySem.W.mg_of X G gMAX_FIGURES⟩ ⟨_, PySem.W.mg_of X G gMAX_LETTERS⟩ G_nth_name G_new_names
end PF2
namespace PF
open PySem PySem.Spec PyProof.Rows L2 SlX
end PF
set_option maxHeartbeats 0
namespace PH
open PF PF2 PySem PySem.Spec PyProof.Rows L2 SlX
theorem all5 {prog : Program} {w : World} {K : PySem.W.Frag} {h : Heap} {mg : Str → Option Value} {fa : Addr} (X : K.In h) (G : h.Ns mainGlobals mg) (hfa : mg "law" = some (.ref fa)) (pfile : prog.main.file = "/claim/cut.py") (ptop : (prog.main.scope.names.lookup ("super" : Str)).isSome = false) (hb : bx K = true) (hv : fx K = vx)
    : ∀ base : Heap, K.In base → base.Ns mainGlobals mg → (∀ p ∈ tbC, LamX.TabB base mg p.1 p.2) → FnG prog w K mg base 12 fa 1 (spLaw K) := by
  simp only [bx, Bool.and_eq_true] at hb
  obtain ⟨hp0, hp1, hp2, hp3⟩ := hb
  simp only [bp0, Bool.and_eq_true] at hp0
  obtain ⟨hb0, hb4, _⟩ := hp0
  simp only [bp1, Bool.and_eq_true] at hp1
  obtain ⟨hb1, hb5, _⟩ := hp1
  simp only [bp2, Bool.and_eq_true] at hp2
  obtain ⟨hb2, _⟩ := hp2
  simp only [bp3, Bool.and_eq_true] at hp3
  obtain ⟨hb3, _⟩ := hp3
  simp only [bx0, Bool.and_eq_true, decide_eq_true_eq] at hb0
  obtain ⟨z_abs, z_all, z_bool, z_divmod, z_int, z_isinstance, z_len, z_list, z_max, z_min, z_range, z_repr, z_str, z_tuple, cn, ct, at0, ct0, kt0, at1, _⟩ := hb0
  simp only [bx1, Bool.and_eq_true, decide_eq_true_eq] at hb1
  obtain ⟨ct1, kt1, at2, ct2, kt2, at3, ct3, kt3, at4, ct4, kt4, at5, ct5, kt5, at6, ct6, kt6, at7, ct7, kt7, _⟩ := hb1
  simp only [bx2, Bool.and_eq_true, decide_eq_true_eq] at hb2
  obtain ⟨at8, ct8, kt8, ycs, z_super, xa_InvalidCount, yi_InvalidCount, ye_InvalidCount, yb_InvalidCount, yk_InvalidCount, yc_InvalidCount, yo_InvalidCount, yt_InvalidCount, yn_InvalidCount, yv_InvalidCount, yx_InvalidCount, yy_InvalidCount, yz_InvalidCount, yw_InvalidCount, yq_InvalidCount, _⟩ := hb2
  simp only [bx3, Bool.and_eq_true, decide_eq_true_eq] at hb3
  obtain ⟨at9, ct9, kt9, at10, ct10, kt10, xa_InvalidOperation, xe_InvalidOperation, xk_InvalidOperation, xs_InvalidOperation, xt_InvalidOperation, at11, ct11, kt11, at12, ct12, kt12, at13, ct13, kt13, _⟩ := hb3
  simp only [bx4, Bool.and_eq_true, decide_eq_true_eq] at hb4
  obtain ⟨at14, ct14, kt14, at15, ct15, kt15, at16, ct16, kt16, at17, ct17, kt17, at18, ct18, kt18, at19, ct19, kt19, vt19, E_InvalidCount_InvalidCount, _⟩ := hb4
  simp only [bx5, Bool.and_eq_true, decide_eq_true_eq] at hb5
  obtain ⟨E_InvalidOperation_InvalidCount, E_InvalidOperation_InvalidOperation, at20, ct20, kt20, vt20, at21, ct21, kt21, gGREAT, gLETTERS, gMANY_NAMES, gMAX_FIGURES, gMAX_LETTERS, gMOST_NEW, gMOST_USED, _⟩ := hb5
  simp only [fx, vx, fx0, vx0, fx1, vx1, List.cons_append, List.nil_append, List.append_nil, List.cons.injEq, and_true] at hv
  obtain ⟨lt0, lt1, lt2, lt3, lt4, lt5, lt6, lt7, lt8, yf_InvalidCount, lt9, lt10, lt11, lt12, lt13, lt14, lt15, lt16, lt17, lt18, lt19, lt20, lt21⟩ := hv
  obtain ⟨_, _, _, _, _, _, _, _, lt0⟩ := PHD.fw_ok lt0
  obtain ⟨_, _, _, _, _, _, _, _, lt1⟩ := PHD.fw_ok lt1
  obtain ⟨_, _, _, _, _, _, _, _, lt2⟩ := PHD.fw_ok lt2
  obtain ⟨_, _, _, _, _, _, _, _, lt3⟩ := PHD.fw_ok lt3
  obtain ⟨_, _, _, _, _, _, _, _, lt4⟩ := PHD.fw_ok lt4
  obtain ⟨_, _, _, _, _, _, _, _, lt5⟩ := PHD.fw_ok lt5
  obtain ⟨_, _, _, _, _, _, _, _, lt6⟩ := PHD.fw_ok lt6
  obtain ⟨_, _, _, _, _, _, _, _, lt7⟩ := PHD.fw_ok lt7
  obtain ⟨_, _, _, _, _, _, _, _, lt8⟩ := PHD.fw_ok lt8
  obtain ⟨_, _, _, _, _, _, _, _, lt9⟩ := PHD.fw_ok lt9
  obtain ⟨_, _, _, _, _, _, _, _, lt10⟩ := PHD.fw_ok lt10
  obtain ⟨_, _, _, _, _, _, _, _, lt11⟩ := PHD.fw_ok lt11
  obtain ⟨_, _, _, _, _, _, _, _, lt12⟩ := PHD.fw_ok lt12
  obtain ⟨_, _, _, _, _, _, _, _, lt13⟩ := PHD.fw_ok lt13
  obtain ⟨_, _, _, _, _, _, _, _, lt14⟩ := PHD.fw_ok lt14
  obtain ⟨_, _, _, _, _, _, _, _, lt15⟩ := PHD.fw_ok lt15
  obtain ⟨_, _, _, _, _, _, _, _, lt16⟩ := PHD.fw_ok lt16
  obtain ⟨_, _, _, _, _, _, _, _, lt17⟩ := PHD.fw_ok lt17
  obtain ⟨_, _, _, _, _, _, _, _, lt18⟩ := PHD.fw_ok lt18
  obtain ⟨_, _, _, _, _, _, _, _, lt19⟩ := PHD.fw_ok lt19
  obtain ⟨_, _, _, _, _, _, _, _, lt20⟩ := PHD.fw_ok lt20
  obtain ⟨_, _, _, _, _, _, _, _, lt21⟩ := PHD.fw_ok lt21
  obtain ⟨_, gGREAT⟩ := PHD.int_ok gGREAT
  obtain ⟨_, gLETTERS⟩ := PHD.str_ok gLETTERS
  obtain ⟨_, gMANY_NAMES⟩ := PHD.int_ok gMANY_NAMES
  obtain ⟨_, gMAX_FIGURES⟩ := PHD.int_ok gMAX_FIGURES
  obtain ⟨_, gMAX_LETTERS⟩ := PHD.int_ok gMAX_LETTERS
  obtain ⟨_, gMOST_NEW⟩ := PHD.int_ok gMOST_NEW
  obtain ⟨_, gMOST_USED⟩ := PHD.int_ok gMOST_USED
  exact PF2.all_mk X G hfa z_abs z_all z_bool z_divmod z_int z_isinstance z_len z_list z_max z_min z_range z_repr z_str z_tuple cn ct at0 lt0 ct0 kt0 at1 lt1 ct1 kt1 at2 lt2 ct2 kt2 at3 lt3 ct3 kt3 at4 lt4 ct4 kt4 at5 lt5 ct5 kt5 at6 lt6 ct6 kt6 at7 lt7 ct7 kt7 at8 lt8 ct8 kt8 pfile ptop ycs z_super xa_InvalidCount yi_InvalidCount ye_InvalidCount yf_InvalidCount yb_InvalidCount yk_InvalidCount yc_InvalidCount yo_InvalidCount yt_InvalidCount yn_InvalidCount yv_InvalidCount yx_InvalidCount yy_InvalidCount yz_InvalidCount yw_InvalidCount yq_InvalidCount at9 lt9 ct9 kt9 at10 lt10 ct10 kt10 xa_InvalidOperation xe_InvalidOperation xk_InvalidOperation xs_InvalidOperation xt_InvalidOperation at11 lt11 ct11 kt11 at12 lt12 ct12 kt12 at13 lt13 ct13 kt13 at14 lt14 ct14 kt14 at15 lt15 ct15 kt15 at16 lt16 ct16 kt16 at17 lt17 ct17 kt17 at18 lt18 ct18 kt18 at19 lt19 ct19 kt19 vt19 E_InvalidCount_InvalidCount E_InvalidOperation_InvalidCount E_InvalidOperation_InvalidOperation at20 lt20 ct20 kt20 vt20 at21 lt21 ct21 kt21 gGREAT gLETTERS gMANY_NAMES gMAX_FIGURES gMAX_LETTERS gMOST_NEW gMOST_USED
end PH
open PySem PySem.W PySem.Calls PyProof.Rows in
set_option maxRecDepth 100000 in
set_option maxHeartbeats 0 in
theorem PySem.Challenge.cw_pieceround_k00_words_holds : PySem.Challenge.rw_pieceround_k00_words.Holds := by
  w_on; o_law
  refine HandSHeadRun.head_any (r := OpenLaw.row PySem.Challenge.rw_pieceround_k00_words) (q := PH.vw) (H := PH.hk) (ob := PHD.obT PH.tbs PH.bx PH.fx) (M := 20000) (loose := PH.nms) (d := HandSHeadRun.topDef (OpenLaw.row PySem.Challenge.rw_pieceround_k00_words).prog 34) (kwd := []) PHD.obT_eq
    (by kernel_rfl) (fun s => by kernel_rfl) (fun w os => PHD.map3 (PH.r1 w os) (PH.r2 w os) (PH.r34 w os)) (by kernel_rfl) (by kernel_rfl) (by kernel_rfl) (by rfl) (by first | assumption | decide +kernel) (by decide +kernel) ⟨rfl, rfl, rfl, rfl, rfl, by decide +kernel⟩ ?hw ?hc
  case hw => w_witness2
  case hc =>
    refine PF.walk_gT (cs := PF2.tbC) (l := PySem.Challenge.rw_pieceround_k00_words) (n := 63) (k := 12) rfl (by decide) (by kernel_rfl) ⟨rfl, by decide, by decide⟩ ?F
    intro w mg fa h Y G hmg0
    obtain ⟨K, KX, hT, nT, hC, hb, hv⟩ := Y
    have hmg : mg ("law" : PySem.Str) = some (.ref fa) := by
      have e : (HandSHeadRun.topDef (OpenLaw.row PySem.Challenge.rw_pieceround_k00_words).prog 34).name = ("law" : PySem.Str) := by kernel_rfl
      rw [← e]
      exact hmg0
    exact ⟨K, PF2.spLaw K, KX, hT, nT, hC, fun G a ns hl _ hG hS => ⟨a, ns, rfl, hS, Nat.le_trans hl (by decide), PF2.tbN_of hG, fun H' => rfl⟩, PH.all5 KX G hmg (by kernel_rfl) (by kernel_rfl) hb hv⟩
