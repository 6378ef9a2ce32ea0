import PyProof.Rows.All
import Wide.All
import OpenK.AllK
import Wide.FinOn
import KE.KStateDown
import HandS.Base
import HandS.Words
import HandS.Head0
import HandS.Head1
import HandS.Head2
import HandS.HeadEnd
import HandS.HeadHook1
import HandS.HeadHook2
import KE.KNestM
import PyProof.InstSpecial
import KE.KOpsOwn
import KE.KExcInit
import HandS.ForExc
import HandS.Comp
import HandS.Wide
import HandS.WideBits
import HandS.Slots
import HandS.SlotsOwn
import HandS.MakeKwOnly
import HandS.MakeKw
import HandS.Defaults
import HandS.More
import HandS.IsInst
import HandS.Flow
import HandS.Conv
import HandS.Codes
import PyProof.ReprRoads
import HandS.Lambda
import HandS.Zip
import HandS.NoneIn
import HandS.TupAny
import HandS.TupMul
import HandS.FStr
import HandS.RaiseMore
import HandS.Dict
import HandS.DictComp
import HandS.Iter
import HandS.Text
import KE.GoesEnum
import HandS.Strs
import HandS.SetFor
import HandS.Deep
import HandS.Style
import HandS.WordsDict
import HandS.IterVal
import HandS.ClsMeth
import HandS.OwnEq
import KE.KDictZip
import HandS.OwnIter
import HandS.IterNext
import PyProof.DictUpdate
import PyProof.DictTable
import PyProof.NeKinds
import HandS.Star
import KE.KDictList
import KE.DatumOrd
import HandS.SortKw
import HandS.ListItems
import KE.KFmtOwn
import HandS.StrMore
import KE.KOwnIter
import HandS.DictEq
import KE.GoesZip
import KE.GoesMore
import HandS.TryOnly
import HandS.Small
import HandS.WordsExc
import HandS.TryMany
import PyProof.ExcBaseAll.ValueError
import KE.KExcSuper
import HandS.Call
import HandS.Exc
import HandS.ExcInit
import HandS.ExcField
import HandS.ExcOwn
import PyProof.EqKinds
import PySem.Challenge.RW_pieceround_k05_errors_of_numbers
set_option Elab.async false
set_option linter.all false
set_option maxRecDepth 100000
namespace PF
open PySem PySem.Spec PyProof.Rows
def topS (i : Nat) : Stmt := PySem.Challenge.pw_pieceround_k05_errors_of_numbers.main.body.getD i (.Pass ⟨0, 0, 0, 0⟩)
end PF
set_option maxHeartbeats 1000000
namespace PHD
open PySem PySem.Spec PyProof.Rows L2
abbrev FwT : Type := Option (Str × Str × Arguments × FuncBody × Scope × Addr × List (Str × Addr) × Addr × Value)
def fw (K : PySem.W.Frag) (f : Addr) : FwT := match K.lookup f with
  | some ⟨_, _, .func fd, _⟩ => some (fd.name, fd.qualname, fd.params, fd.body, fd.scope, fd.globals, fd.closure, fd.builtins, fd.defaults)
  | _ => none
def fcode (K : PySem.W.Frag) (f : Addr) : Value := match K.lookup f with
  | some ⟨_, _, .func fd, _⟩ => fd.code
  | _ => .none
def fwV (n q : Str) (a : Arguments) (b : List Stmt) (s : Scope) : FwT := some (n, q, a, .stmts b, s, mainGlobals, [], builtinsNs, .none)
theorem fw_ok {K : PySem.W.Frag} {f : Addr} {n q : Str} {a : Arguments} {b : List Stmt} {s : Scope} (e : fw K f = fwV n q a b s) :
    ∃ oc od kV dc pm an ct sl, K.lookup f = some ⟨oc, od, .func (PySem.W.fnOf n q a b s .none kV dc pm an (fcode K f) ct), sl⟩ := by
  unfold fw at e
  unfold fcode
  cases h : K.lookup f with
  | none => rw [h] at e; cases e
  | some o =>
    obtain ⟨oc, od, dt, sl⟩ := o
    rw [h] at e
    cases dt with
    | func fd =>
      obtain ⟨n1, n2, n3, n4, n5, n6, n7, n8, n9, n10, n11, n12, n13, n14, n15⟩ := fd
      have e2 : (some (n1, n2, n3, n4, n5, n6, n7, n15, n8) : FwT) = some (n, q, a, .stmts b, s, mainGlobals, [], builtinsNs, .none) := e
      simp only [Option.some.injEq, Prod.mk.injEq] at e2
      obtain ⟨h1, h2, h3, h4, h5, h6, h7, h8, h9⟩ := e2
      subst h1 h2 h3 h4 h5 h6 h7 h8 h9
      exact ⟨oc, od, n9, n10, n11, n12, n14, sl, rfl⟩
    | _ => cases e
def recHd (K : PySem.W.Frag) (d : Addr) (T : String) : Addr := match PySem.W.recIn K d T with
  | some (.ref f :: _) => f
  | _ => 0
def recB (K : PySem.W.Frag) (d : Addr) (T : String) : Bool := match PySem.W.recIn K d T with
  | some (.ref _ :: _) => true
  | _ => false
theorem rec_ok {K : PySem.W.Frag} {d : Addr} {T : String} (h : recB K d T = true) : ∃ r, PySem.W.recIn K d T = some (.ref (recHd K d T) :: r) := by
  unfold recB at h
  unfold recHd
  split at h
  · rename_i f r e
    exact ⟨r, by rw [e]⟩
  · cases h
def intB (K : PySem.W.Frag) (x : Str) (i : Int) : Bool := match PySem.W.nsIn K mainGlobals x with
  | some (some (.int j _)) => decide (j = i)
  | _ => false
theorem int_ok {K : PySem.W.Frag} {x : Str} {i : Int} (h : intB K x i = true) : ∃ t, PySem.W.nsIn K mainGlobals x = some (some (.int i t)) := by
  unfold intB at h
  split at h
  · rename_i j t e
    exact ⟨t, by rw [e, of_decide_eq_true h]⟩
  · cases h
def lv (g : Addr → Option Obj) (as : List Addr) : List Addr := as.flatMap fun a => match g a with
  | some o => He.refsD o
  | none => []
def asL (g : Addr → Option Obj) : List Addr := [mainGlobals, cStatics] ++ lv g [mainGlobals] ++ lv g (lv g [mainGlobals]) ++ lv g (lv g (lv g [mainGlobals])) ++ lv g (lv g (lv g (lv g [mainGlobals]))) ++ lv g (lv g (lv g (lv g (lv g [mainGlobals]))))
theorem map3 {α β γ δ : Type} {o : Option α} {f : α → β} {g : α → γ} {h : α → δ} {a : β} {b : γ} {c : δ} (e1 : o.map f = some a) (e2 : o.map g = some b) (e3 : o.map h = some c) : o.map (fun s => (f s, g s, h s)) = some (a, b, c) := by
  cases o with
  | none => cases e1
  | some x =>
    simp only [Option.map_some, Option.some.injEq] at e1 e2 e3 ⊢
    rw [e1, e2, e3]
theorem map2 {α β γ : Type} {o : Option α} {f : α → β} {g : α → γ} {a : β} {b : γ} (e1 : o.map f = some a) (e2 : o.map g = some b) : o.map (fun s => (f s, g s)) = some (a, b) := by
  cases o with
  | none => cases e1
  | some x =>
    simp only [Option.map_some, Option.some.injEq] at e1 e2 ⊢
    rw [e1, e2]
def fwN (K : PySem.W.Frag) (f : Addr) : FwT := match K.lookup f with
  | some ⟨_, _, .func fd, _⟩ => some (fd.name, fd.qualname, fd.params, fd.body, fd.scope, fd.globals, fd.closure, fd.builtins, .none)
  | _ => none
def dflA (K : PySem.W.Frag) (f : Addr) : Addr := match K.lookup f with
  | some ⟨_, _, .func fd, _⟩ => (match fd.defaults with | .ref a => a | _ => 0)
  | _ => 0
def kwdA (K : PySem.W.Frag) (f : Addr) : Addr := match K.lookup f with
  | some ⟨_, _, .func fd, _⟩ => (match fd.kwdefaults with | .ref a => a | _ => 0)
  | _ => 0
def isRef : Value → Bool
  | .ref _ => true
  | _ => false
def dkB (K : PySem.W.Frag) (f : Addr) : Bool := match K.lookup f with
  | some ⟨_, _, .func fd, _⟩ => isRef fd.defaults && isRef fd.kwdefaults
  | _ => false
theorem fwN_ok {K : PySem.W.Frag} {f : Addr} {n q : Str} {a : Arguments} {b : List Stmt} {s : Scope} (e : fwN K f = fwV n q a b s) (d : dkB K f = true) :
    ∃ oc od dc pm an ct sl, K.lookup f = some ⟨oc, od, .func (PySem.W.fnOf n q a b s (.ref (dflA K f)) (.ref (kwdA K f)) dc pm an (fcode K f) ct), sl⟩ := by
  unfold fwN at e
  unfold dkB at d
  unfold fcode dflA kwdA
  cases h : K.lookup f with
  | none => rw [h] at e; cases e
  | some o =>
    obtain ⟨oc, od, dt, sl⟩ := o
    rw [h] at e d
    cases dt with
    | func fd =>
      obtain ⟨n1, n2, n3, n4, n5, n6, n7, n8, n9, n10, n11, n12, n13, n14, n15⟩ := fd
      have e2 : (some (n1, n2, n3, n4, n5, n6, n7, n15, .none) : FwT) = some (n, q, a, .stmts b, s, mainGlobals, [], builtinsNs, .none) := e
      have d2 : (isRef n8 && isRef n9) = true := d
      simp only [Option.some.injEq, Prod.mk.injEq] at e2
      obtain ⟨h1, h2, h3, h4, h5, h6, h7, h8, _⟩ := e2
      subst h1 h2 h3 h4 h5 h6 h7 h8
      cases n8 with
      | ref a8 =>
        cases n9 with
        | ref a9 => exact ⟨oc, od, n10, n11, n12, n14, sl, rfl⟩
        | _ => cases d2
      | _ => cases n9 <;> cases d2
    | _ => cases e
def seqB (K : PySem.W.Frag) (a : Addr) (i : Int) : Bool := match K.lookup a with
  | some ⟨_, _, .seq its _, _⟩ => (match its.toList with | [.int j _] => decide (j = i) | _ => false)
  | _ => false
theorem seq_ok {K : PySem.W.Frag} {a : Addr} {i : Int} (h : seqB K a i = true) : ∃ oc od t n sl, K.lookup a = some ⟨oc, od, .seq #[.int i t] n, sl⟩ := by
  unfold seqB at h
  split at h
  · rename_i oc od its n sl e
    split at h
    · rename_i j t e2
      have e3 : its = #[.int j t] := by
        apply Array.ext'
        rw [e2]
      exact ⟨oc, od, t, n, sl, by rw [e, e3, of_decide_eq_true h]⟩
    · cases h
  · cases h
def intN (K : PySem.W.Frag) (a : Addr) (x : Str) (i : Int) : Bool := match PySem.W.nsIn K a x with
  | some (some (.int j _)) => decide (j = i)
  | _ => false
theorem intN_ok {K : PySem.W.Frag} {a : Addr} {x : Str} {i : Int} (h : intN K a x i = true) : ∃ t, PySem.W.nsIn K a x = some (some (.int i t)) := by
  unfold intN at h
  split at h
  · rename_i j t e
    exact ⟨t, by rw [e, of_decide_eq_true h]⟩
  · cases h
theorem some_ok {α : Type} {o : Option α} (h : o.isSome = true) : ∃ v, o = some v := by
  cases o with
  | none => cases h
  | some v => exact ⟨v, rfl⟩
theorem map_and {α : Type} {o : Option α} {f g : α → Bool} (e1 : o.map f = some true) (e2 : o.map g = some true) : o.map (fun s => f s && g s) = some true := by
  cases o with
  | none => cases e1
  | some x =>
    simp only [Option.map_some, Option.some.injEq] at e1 e2 ⊢
    rw [e1, e2]; rfl
def tabE : Option Obj → Bool
  | some ⟨.none, none, .fields vs, sl⟩ => vs.isEmpty && sl.isEmpty
  | _ => false
theorem tabE_ok {o : Option Obj} (h : tabE o = true) : o = some { cls := .none, data := .fields #[] } := by
  unfold tabE at h
  split at h
  · rename_i vs sl
    rw [Bool.and_eq_true, Array.isEmpty_iff, Array.isEmpty_iff] at h
    rw [h.1, h.2]
  · cases h
def asT (g : Addr → Option Obj) : List Addr := (asL g).filter fun a => !tabE (g a)
def tabsB (cs : List (Addr × Addr)) (g : Addr → Option Obj) : Bool := cs.all fun p => tabE (g p.2)
def tabsK (cs : List (Addr × Addr)) (K : PySem.W.Frag) : Bool := cs.all fun p => (K.lookup p.2).isNone && PySem.W.codeHdIn K p.1 p.2
def saysT (cs : List (Addr × Addr)) (bx : PySem.W.Frag → Bool) (fx : PySem.W.Frag → List FwT) (vx : List FwT) (h : Heap) : Prop :=
  ∃ K : PySem.W.Frag, K.In h ∧ (∀ p ∈ cs, h.get? p.2 = some { cls := .none, data := .fields #[] }) ∧ (∀ p ∈ cs, K.lookup p.2 = none) ∧ (∀ p ∈ cs, PySem.W.codeHdIn K p.1 p.2 = true) ∧ bx K = true ∧ fx K = vx
def hookT (cs : List (Addr × Addr)) (bx : PySem.W.Frag → Bool) (fx : PySem.W.Frag → List FwT) (vx : List FwT) : PySem.W.Hook where
  α := Bool × List FwT
  obs := fun s => ((tabsB cs s.heap.get? && tabsK cs (He.frG s.heap.get? (asT s.heap.get?))) && bx (He.frG s.heap.get? (asT s.heap.get?)), fx (He.frG s.heap.get? (asT s.heap.get?)))
  val := fun _ => (true, vx)
  says := fun _ h => saysT cs bx fx vx h
  of := fun _ s e => by
    have e1 := congrArg Prod.fst e
    have e2 := congrArg Prod.snd e
    dsimp only at e1 e2
    rw [Bool.and_eq_true, Bool.and_eq_true] at e1
    obtain ⟨⟨a, b⟩, c⟩ := e1
    refine ⟨_, He.frG_in, fun p hp => tabE_ok (List.all_eq_true.mp a p hp), fun p hp => ?_, fun p hp => ?_, c, e2⟩
    · have := List.all_eq_true.mp b p hp
      rw [Bool.and_eq_true] at this
      exact Option.isNone_iff_eq_none.mp this.1
    · have := List.all_eq_true.mp b p hp
      rw [Bool.and_eq_true] at this
      exact this.2
  keeps := fun _ _ _ ⟨K, hK, c, d⟩ k => ⟨K, PySem.W.Frag.In.keeps hK k, fun p hp => k _ _ (c p hp), d⟩
noncomputable def obT (cs : List (Addr × Addr)) (bx : PySem.W.Frag → Bool) (fx : PySem.W.Frag → List FwT) (s : PySem.W.SharedT) : Bool × List FwT :=
  ((tabsB cs (HandSHeadRun.getT s) && tabsK cs (He.frG (HandSHeadRun.getT s) (asT (HandSHeadRun.getT s)))) && bx (He.frG (HandSHeadRun.getT s) (asT (HandSHeadRun.getT s))), fx (He.frG (HandSHeadRun.getT s) (asT (HandSHeadRun.getT s))))
theorem obT_eq {cs : List (Addr × Addr)} {bx : PySem.W.Frag → Bool} {fx : PySem.W.Frag → List FwT} {vx : List FwT} (s : PySem.W.SharedT) : obT cs bx fx s = (hookT cs bx fx vx).obs s.abs := by
  have e : HandSHeadRun.getT s = s.abs.heap.get? := funext (HandSHeadRun.getT_eq s)
  unfold obT
  rw [e] <;> rfl
end PHD
set_option maxHeartbeats 0
namespace PH
open PF PySem PySem.Spec PyProof.Rows L2
def a_CN (K : PySem.W.Frag) : Addr := He.ga K "Number"
def a_CF (K : PySem.W.Frag) : Addr := He.ga K "Form"
def a_pNtop (K : PySem.W.Frag) : Addr := He.ma K (a_CN K) "own_top"
def a_pNpart (K : PySem.W.Frag) : Addr := He.ma K (a_CN K) "own_part"
def a_pNroot (K : PySem.W.Frag) : Addr := He.ma K (a_CN K) "own_root"
def a_pNbottom (K : PySem.W.Frag) : Addr := He.ma K (a_CN K) "own_bottom"
def a_pFtop (K : PySem.W.Frag) : Addr := He.ma K (a_CF K) "own_top"
def a_pFpart (K : PySem.W.Frag) : Addr := He.ma K (a_CF K) "own_part"
def a_pFroot (K : PySem.W.Frag) : Addr := He.ma K (a_CF K) "own_root"
def a_pFbottom (K : PySem.W.Frag) : Addr := He.ma K (a_CF K) "own_bottom"
def a_ft0 (K : PySem.W.Frag) : Addr := He.ga K "is_whole"
def a_cdt0 (K : PySem.W.Frag) : Value := PHD.fcode K (a_ft0 K)
def a_ft1 (K : PySem.W.Frag) : Addr := He.ga K "greatest_divisor"
def a_cdt1 (K : PySem.W.Frag) : Value := PHD.fcode K (a_ft1 K)
def a_ft2 (K : PySem.W.Frag) : Addr := He.ga K "whole_root"
def a_cdt2 (K : PySem.W.Frag) : Value := PHD.fcode K (a_ft2 K)
def a_ft3 (K : PySem.W.Frag) : Addr := He.ga K "is_root"
def a_cdt3 (K : PySem.W.Frag) : Value := PHD.fcode K (a_ft3 K)
def a_ft4 (K : PySem.W.Frag) : Addr := He.ga K "sign_of"
def a_cdt4 (K : PySem.W.Frag) : Value := PHD.fcode K (a_ft4 K)
def a_ft5 (K : PySem.W.Frag) : Addr := He.ga K "sign_of_sum"
def a_cdt5 (K : PySem.W.Frag) : Value := PHD.fcode K (a_ft5 K)
def a_ft6 (K : PySem.W.Frag) : Addr := He.ga K "told_number"
def a_cdt6 (K : PySem.W.Frag) : Value := PHD.fcode K (a_ft6 K)
def a_ffi (K : PySem.W.Frag) : Addr := He.ma K (a_CF K) "__init__"
def a_cdfi (K : PySem.W.Frag) : Value := PHD.fcode K (a_ffi K)
def a_ft7 (K : PySem.W.Frag) : Addr := He.ga K "form_in"
def a_cdt7 (K : PySem.W.Frag) : Value := PHD.fcode K (a_ft7 K)
def a_fni (K : PySem.W.Frag) : Addr := He.ma K (a_CN K) "__init__"
def a_aT (K : PySem.W.Frag) : Addr := PHD.dflA K (a_fni K)
def a_aD (K : PySem.W.Frag) : Addr := PHD.kwdA K (a_fni K)
def a_cdni (K : PySem.W.Frag) : Value := PHD.fcode K (a_fni K)
def a_ft8 (K : PySem.W.Frag) : Addr := He.ga K "is_like_number"
def a_cdt8 (K : PySem.W.Frag) : Value := PHD.fcode K (a_ft8 K)
def a_ft9 (K : PySem.W.Frag) : Addr := He.ga K "number_of"
def a_cdt9 (K : PySem.W.Frag) : Value := PHD.fcode K (a_ft9 K)
def a_ft10 (K : PySem.W.Frag) : Addr := He.ga K "required"
def a_cdt10 (K : PySem.W.Frag) : Value := PHD.fcode K (a_ft10 K)
def a_ft11 (K : PySem.W.Frag) : Addr := He.ga K "common_root"
def a_cdt11 (K : PySem.W.Frag) : Value := PHD.fcode K (a_ft11 K)
def a_fadd (K : PySem.W.Frag) : Addr := He.ma K (a_CN K) "__add__"
def a_cdadd (K : PySem.W.Frag) : Value := PHD.fcode K (a_fadd K)
def a_fsub (K : PySem.W.Frag) : Addr := He.ma K (a_CN K) "__sub__"
def a_cdsub (K : PySem.W.Frag) : Value := PHD.fcode K (a_fsub K)
def a_fmul (K : PySem.W.Frag) : Addr := He.ma K (a_CN K) "__mul__"
def a_cdmul (K : PySem.W.Frag) : Value := PHD.fcode K (a_fmul K)
def a_fm_over (K : PySem.W.Frag) : Addr := He.ma K (a_CN K) "over"
def a_cdm_over (K : PySem.W.Frag) : Value := PHD.fcode K (a_fm_over K)
def a_fm_compared (K : PySem.W.Frag) : Addr := He.ma K (a_CN K) "compared"
def a_cdm_compared (K : PySem.W.Frag) : Value := PHD.fcode K (a_fm_compared K)
def a_dp_sign (K : PySem.W.Frag) : Addr := He.ma K (a_CN K) "sign"
def a_fp_sign (K : PySem.W.Frag) : Addr := PHD.recHd K (a_dp_sign K) "property"
def a_cdp_sign (K : PySem.W.Frag) : Value := PHD.fcode K (a_fp_sign K)
def a_dp_top (K : PySem.W.Frag) : Addr := He.ma K (a_CN K) "top"
def a_fp_top (K : PySem.W.Frag) : Addr := PHD.recHd K (a_dp_top K) "property"
def a_cdp_top (K : PySem.W.Frag) : Value := PHD.fcode K (a_fp_top K)
def a_dp_part (K : PySem.W.Frag) : Addr := He.ma K (a_CN K) "part"
def a_fp_part (K : PySem.W.Frag) : Addr := PHD.recHd K (a_dp_part K) "property"
def a_cdp_part (K : PySem.W.Frag) : Value := PHD.fcode K (a_fp_part K)
def a_dp_root (K : PySem.W.Frag) : Addr := He.ma K (a_CN K) "root"
def a_fp_root (K : PySem.W.Frag) : Addr := PHD.recHd K (a_dp_root K) "property"
def a_cdp_root (K : PySem.W.Frag) : Value := PHD.fcode K (a_fp_root K)
def a_dp_bottom (K : PySem.W.Frag) : Addr := He.ma K (a_CN K) "bottom"
def a_fp_bottom (K : PySem.W.Frag) : Addr := PHD.recHd K (a_dp_bottom K) "property"
def a_cdp_bottom (K : PySem.W.Frag) : Value := PHD.fcode K (a_fp_bottom K)
def a_feq (K : PySem.W.Frag) : Addr := He.ma K (a_CN K) "__eq__"
def a_cdeq (K : PySem.W.Frag) : Value := PHD.fcode K (a_feq K)
def a_fstr (K : PySem.W.Frag) : Addr := He.ma K (a_CN K) "__str__"
def a_cdstr (K : PySem.W.Frag) : Value := PHD.fcode K (a_fstr K)
def a_ft12 (K : PySem.W.Frag) : Addr := He.ga K "_law_dice"
def a_cdt12 (K : PySem.W.Frag) : Value := PHD.fcode K (a_ft12 K)
def a_ft13 (K : PySem.W.Frag) : Addr := He.ga K "_law_roll"
def a_cdt13 (K : PySem.W.Frag) : Value := PHD.fcode K (a_ft13 K)
def a_ft14 (K : PySem.W.Frag) : Addr := He.ga K "_law_pick"
def a_cdt14 (K : PySem.W.Frag) : Value := PHD.fcode K (a_ft14 K)
def a_A_InvalidNumber (K : PySem.W.Frag) : Addr := He.ga K "InvalidNumber"
def a_A_InvalidOperation (K : PySem.W.Frag) : Addr := He.ga K "InvalidOperation"
def a_ft15 (K : PySem.W.Frag) : Addr := He.ga K "go_together"
def a_cdt15 (K : PySem.W.Frag) : Value := PHD.fcode K (a_ft15 K)
def a_ft16 (K : PySem.W.Frag) : Addr := He.ga K "have_one_root"
def a_cdt16 (K : PySem.W.Frag) : Value := PHD.fcode K (a_ft16 K)
def a_ft17 (K : PySem.W.Frag) : Addr := He.ga K "_law_made"
def a_cdt17 (K : PySem.W.Frag) : Value := PHD.fcode K (a_ft17 K)
def a_ft18 (K : PySem.W.Frag) : Addr := He.ga K "_law_word"
def a_cdt18 (K : PySem.W.Frag) : Value := PHD.fcode K (a_ft18 K)
def a_ft19 (K : PySem.W.Frag) : Addr := He.ga K "_law_wrong"
def a_cdt19 (K : PySem.W.Frag) : Value := PHD.fcode K (a_ft19 K)
def a_ft20 (K : PySem.W.Frag) : Addr := He.ga K "_law_used"
def a_cdt20 (K : PySem.W.Frag) : Value := PHD.fcode K (a_ft20 K)
def a_ft21 (K : PySem.W.Frag) : Addr := He.ga K "_law_makes"
def a_cdt21 (K : PySem.W.Frag) : Value := PHD.fcode K (a_ft21 K)
def a_ft22 (K : PySem.W.Frag) : Addr := He.ga K "_law_reckons"
def a_cdt22 (K : PySem.W.Frag) : Value := PHD.fcode K (a_ft22 K)
def a_ft23 (K : PySem.W.Frag) : Addr := He.ga K "_law_together"
def a_cdt23 (K : PySem.W.Frag) : Value := PHD.fcode K (a_ft23 K)
def a_ft24 (K : PySem.W.Frag) : Addr := He.ga K "law"
def a_cdt24 (K : PySem.W.Frag) : Value := PHD.fcode K (a_ft24 K)
def bx0 (K : PySem.W.Frag) : Bool := (decide (PySem.W.nsIn K mainGlobals "abs" = some none)) && ((decide (PySem.W.nsIn K mainGlobals "all" = some none)) && ((decide (PySem.W.nsIn K mainGlobals "bool" = some none)) && ((decide (PySem.W.nsIn K mainGlobals "int" = some none)) && ((decide (PySem.W.nsIn K mainGlobals "isinstance" = some none)) && ((decide (PySem.W.nsIn K mainGlobals "len" = some none)) && ((decide (PySem.W.nsIn K mainGlobals "list" = some none)) && ((decide (PySem.W.nsIn K mainGlobals "max" = some none)) && ((decide (PySem.W.nsIn K mainGlobals "min" = some none)) && ((decide (PySem.W.nsIn K mainGlobals "range" = some none)) && ((decide (PySem.W.nsIn K mainGlobals "repr" = some none)) && ((decide (PySem.W.nsIn K mainGlobals "set" = some none)) && ((decide (PySem.W.nsIn K mainGlobals "str" = some none)) && ((decide (PySem.W.nsIn K mainGlobals "tuple" = some none)) && ((decide (PySem.W.specialIn K (.builtin "object.__class__") "__get__" = some (some (.builtin "getset_descriptor.__get__")))) && ((decide (PySem.W.takesIn K (.builtin "object.__class__") = some true)) && ((decide (PySem.W.nsIn K mainGlobals "Number" = some (some (.ref (a_CN K))))) && ((decide (PySem.W.nsIn K mainGlobals "Form" = some (some (.ref (a_CF K))))) && ((decide (PySem.W.plainGet K (a_CN K) Str.empty = true)) && ((decide (PySem.W.isClsIn K (a_CN K) = true)) && true)))))))))))))))))))
def bx1 (K : PySem.W.Frag) : Bool := (decide (PySem.W.plainOver K (a_CN K) = true)) && ((decide (PySem.W.findIn K (.ref (a_CN K)) "__setattr__" = some (some (.builtin "object.__setattr__")))) && ((decide (PySem.W.findIn K (.ref (a_CN K)) "__class__" = some (some (.builtin "object.__class__")))) && ((decide (PySem.W.mroIn K (a_CN K) (.type "object") = some true)) && ((decide (PySem.W.makesIn K (a_CN K) = true)) && ((decide (PySem.W.keepIn K (.ref (a_CN K)) = true)) && ((decide (PySem.W.plainGet K (a_CF K) Str.empty = true)) && ((decide (PySem.W.isClsIn K (a_CF K) = true)) && ((decide (PySem.W.plainOver K (a_CF K) = true)) && ((decide (PySem.W.findIn K (.ref (a_CF K)) "__setattr__" = some (some (.builtin "object.__setattr__")))) && ((decide (PySem.W.findIn K (.ref (a_CF K)) "__class__" = some (some (.builtin "object.__class__")))) && ((decide (PySem.W.mroIn K (a_CF K) (.type "object") = some true)) && ((decide (PySem.W.makesIn K (a_CF K) = true)) && ((decide (PySem.W.keepIn K (.ref (a_CF K)) = true)) && ((decide (PySem.W.findIn K (.ref (a_CN K)) "own_top" = some (some (.ref (a_pNtop K))))) && ((decide (PySem.W.specialIn K (.ref (a_pNtop K)) "__get__" = some (some (.builtin "member_descriptor.__get__")))) && ((decide (PySem.W.takesIn K (.ref (a_pNtop K)) = some true)) && ((decide (PySem.W.typeIn K (.ref (a_pNtop K)) = some (.type "member_descriptor"))) && ((decide (PySem.W.slotIn K (a_pNtop K) (a_CN K) = some 3)) && ((decide (PySem.W.findIn K (.ref (a_CN K)) "own_part" = some (some (.ref (a_pNpart K))))) && true)))))))))))))))))))
def bx2 (K : PySem.W.Frag) : Bool := (decide (PySem.W.specialIn K (.ref (a_pNpart K)) "__get__" = some (some (.builtin "member_descriptor.__get__")))) && ((decide (PySem.W.takesIn K (.ref (a_pNpart K)) = some true)) && ((decide (PySem.W.typeIn K (.ref (a_pNpart K)) = some (.type "member_descriptor"))) && ((decide (PySem.W.slotIn K (a_pNpart K) (a_CN K) = some 1)) && ((decide (PySem.W.findIn K (.ref (a_CN K)) "own_root" = some (some (.ref (a_pNroot K))))) && ((decide (PySem.W.specialIn K (.ref (a_pNroot K)) "__get__" = some (some (.builtin "member_descriptor.__get__")))) && ((decide (PySem.W.takesIn K (.ref (a_pNroot K)) = some true)) && ((decide (PySem.W.typeIn K (.ref (a_pNroot K)) = some (.type "member_descriptor"))) && ((decide (PySem.W.slotIn K (a_pNroot K) (a_CN K) = some 2)) && ((decide (PySem.W.findIn K (.ref (a_CN K)) "own_bottom" = some (some (.ref (a_pNbottom K))))) && ((decide (PySem.W.specialIn K (.ref (a_pNbottom K)) "__get__" = some (some (.builtin "member_descriptor.__get__")))) && ((decide (PySem.W.takesIn K (.ref (a_pNbottom K)) = some true)) && ((decide (PySem.W.typeIn K (.ref (a_pNbottom K)) = some (.type "member_descriptor"))) && ((decide (PySem.W.slotIn K (a_pNbottom K) (a_CN K) = some 0)) && ((decide (PySem.W.findIn K (.ref (a_CF K)) "own_top" = some (some (.ref (a_pFtop K))))) && ((decide (PySem.W.specialIn K (.ref (a_pFtop K)) "__get__" = some (some (.builtin "member_descriptor.__get__")))) && ((decide (PySem.W.takesIn K (.ref (a_pFtop K)) = some true)) && ((decide (PySem.W.typeIn K (.ref (a_pFtop K)) = some (.type "member_descriptor"))) && ((decide (PySem.W.slotIn K (a_pFtop K) (a_CF K) = some 3)) && ((decide (PySem.W.findIn K (.ref (a_CF K)) "own_part" = some (some (.ref (a_pFpart K))))) && true)))))))))))))))))))
def bx3 (K : PySem.W.Frag) : Bool := (decide (PySem.W.specialIn K (.ref (a_pFpart K)) "__get__" = some (some (.builtin "member_descriptor.__get__")))) && ((decide (PySem.W.takesIn K (.ref (a_pFpart K)) = some true)) && ((decide (PySem.W.typeIn K (.ref (a_pFpart K)) = some (.type "member_descriptor"))) && ((decide (PySem.W.slotIn K (a_pFpart K) (a_CF K) = some 1)) && ((decide (PySem.W.findIn K (.ref (a_CF K)) "own_root" = some (some (.ref (a_pFroot K))))) && ((decide (PySem.W.specialIn K (.ref (a_pFroot K)) "__get__" = some (some (.builtin "member_descriptor.__get__")))) && ((decide (PySem.W.takesIn K (.ref (a_pFroot K)) = some true)) && ((decide (PySem.W.typeIn K (.ref (a_pFroot K)) = some (.type "member_descriptor"))) && ((decide (PySem.W.slotIn K (a_pFroot K) (a_CF K) = some 2)) && ((decide (PySem.W.findIn K (.ref (a_CF K)) "own_bottom" = some (some (.ref (a_pFbottom K))))) && ((decide (PySem.W.specialIn K (.ref (a_pFbottom K)) "__get__" = some (some (.builtin "member_descriptor.__get__")))) && ((decide (PySem.W.takesIn K (.ref (a_pFbottom K)) = some true)) && ((decide (PySem.W.typeIn K (.ref (a_pFbottom K)) = some (.type "member_descriptor"))) && ((decide (PySem.W.slotIn K (a_pFbottom K) (a_CF K) = some 0)) && ((decide (PySem.W.typeIn K (.ref (a_CN K)) = some (.type "type"))) && ((decide (PySem.W.typeIn K (.ref (a_CF K)) = some (.type "type"))) && ((decide (PySem.W.subIn K (.type "int") (.ref (a_CF K)) = some false)) && ((decide (PySem.W.subIn K (.ref (a_CN K)) (.type "int") = some false)) && ((decide (PySem.W.subIn K (.type "int") (.ref (a_CN K)) = some false)) && ((decide (PySem.W.nsIn K mainGlobals "is_whole" = some (some (.ref (a_ft0 K))))) && true)))))))))))))))))))
def bx4 (K : PySem.W.Frag) : Bool := (decide (PySem.W.codeIn K (a_cdt0 K) "is_whole" = true)) && ((decide (PySem.W.keepIn K (.ref (a_ft0 K)) = true)) && ((decide (PySem.W.kitOne K (.ref (a_CN K)) (.type "bool") = some false)) && ((decide (PySem.W.nsIn K mainGlobals "greatest_divisor" = some (some (.ref (a_ft1 K))))) && ((decide (PySem.W.codeIn K (a_cdt1 K) "greatest_divisor" = true)) && ((decide (PySem.W.keepIn K (.ref (a_ft1 K)) = true)) && ((decide (PySem.W.nsIn K mainGlobals "whole_root" = some (some (.ref (a_ft2 K))))) && ((decide (PySem.W.codeIn K (a_cdt2 K) "whole_root" = true)) && ((decide (PySem.W.keepIn K (.ref (a_ft2 K)) = true)) && ((decide (PySem.W.nsIn K mainGlobals "is_root" = some (some (.ref (a_ft3 K))))) && ((decide (PySem.W.codeIn K (a_cdt3 K) "is_root" = true)) && ((decide (PySem.W.keepIn K (.ref (a_ft3 K)) = true)) && ((decide (PySem.W.nsIn K mainGlobals "sign_of" = some (some (.ref (a_ft4 K))))) && ((decide (PySem.W.codeIn K (a_cdt4 K) "sign_of" = true)) && ((decide (PySem.W.keepIn K (.ref (a_ft4 K)) = true)) && ((decide (PySem.W.nsIn K mainGlobals "sign_of_sum" = some (some (.ref (a_ft5 K))))) && ((decide (PySem.W.codeIn K (a_cdt5 K) "sign_of_sum" = true)) && ((decide (PySem.W.keepIn K (.ref (a_ft5 K)) = true)) && ((decide (PySem.W.nsIn K mainGlobals "told_number" = some (some (.ref (a_ft6 K))))) && ((decide (PySem.W.codeIn K (a_cdt6 K) "told_number" = true)) && true)))))))))))))))))))
def bx5 (K : PySem.W.Frag) : Bool := (decide (PySem.W.keepIn K (.ref (a_ft6 K)) = true)) && ((decide (PySem.W.findIn K (.ref (a_CF K)) "__init__" = some (some (.ref (a_ffi K))))) && ((decide (PySem.W.codeIn K (a_cdfi K) "Form.__init__" = true)) && ((decide (PySem.W.keepIn K (.ref (a_ffi K)) = true)) && ((decide (PySem.W.isFn K (.ref (a_ffi K)) = true)) && ((decide (PySem.W.nsIn K mainGlobals "form_in" = some (some (.ref (a_ft7 K))))) && ((decide (PySem.W.codeIn K (a_cdt7 K) "form_in" = true)) && ((decide (PySem.W.keepIn K (.ref (a_ft7 K)) = true)) && ((decide (PySem.W.findIn K (.ref (a_CN K)) "__init__" = some (some (.ref (a_fni K))))) && ((PHD.dkB K (a_fni K)) && ((decide (PySem.W.codeIn K (a_cdni K) "Number.__init__" = true)) && ((decide (PySem.W.keepIn K (.ref (a_fni K)) = true)) && ((decide (PySem.W.isFn K (.ref (a_fni K)) = true)) && ((PHD.seqB K (a_aT K) 0) && ((PHD.intN K (a_aD K) "root" 0) && ((PHD.intN K (a_aD K) "bottom" 1) && ((decide (PySem.W.nsIn K mainGlobals "is_like_number" = some (some (.ref (a_ft8 K))))) && ((decide (PySem.W.codeIn K (a_cdt8 K) "is_like_number" = true)) && ((decide (PySem.W.keepIn K (.ref (a_ft8 K)) = true)) && ((decide (PySem.W.subIn K (.type "int") (.ref (a_CN K)) = some false)) && true)))))))))))))))))))
def bx6 (K : PySem.W.Frag) : Bool := (decide (PySem.W.subIn K (.type "bool") (.ref (a_CN K)) = some false)) && ((decide (PySem.W.subIn K (.type "str") (.ref (a_CN K)) = some false)) && ((decide (PySem.W.subIn K (.type "NoneType") (.ref (a_CN K)) = some false)) && ((decide (PySem.W.subIn K (.type "list") (.ref (a_CN K)) = some false)) && ((decide (PySem.W.subIn K (.type "tuple") (.ref (a_CN K)) = some false)) && ((decide (PySem.W.subIn K (.type "dict") (.ref (a_CN K)) = some false)) && ((decide (PySem.W.nsIn K mainGlobals "number_of" = some (some (.ref (a_ft9 K))))) && ((decide (PySem.W.codeIn K (a_cdt9 K) "number_of" = true)) && ((decide (PySem.W.keepIn K (.ref (a_ft9 K)) = true)) && ((decide (PySem.W.nsIn K mainGlobals "required" = some (some (.ref (a_ft10 K))))) && ((decide (PySem.W.codeIn K (a_cdt10 K) "required" = true)) && ((decide (PySem.W.keepIn K (.ref (a_ft10 K)) = true)) && ((decide (PySem.W.nsIn K mainGlobals "common_root" = some (some (.ref (a_ft11 K))))) && ((decide (PySem.W.codeIn K (a_cdt11 K) "common_root" = true)) && ((decide (PySem.W.keepIn K (.ref (a_ft11 K)) = true)) && ((decide (PySem.W.findIn K (.ref (a_CN K)) "__add__" = some (some (.ref (a_fadd K))))) && ((decide (PySem.W.codeIn K (a_cdadd K) "Number.__add__" = true)) && ((decide (PySem.W.keepIn K (.ref (a_fadd K)) = true)) && ((decide (PySem.W.isFn K (.ref (a_fadd K)) = true)) && ((decide (PySem.W.findIn K (.ref (a_CN K)) "__radd__" = some none)) && true)))))))))))))))))))
def bx7 (K : PySem.W.Frag) : Bool := (Option.isSome (PySem.W.findIn K (.type "int") "__add__")) && ((Option.isSome (PySem.W.findIn K (.type "int") "__radd__")) && ((decide (PySem.W.selfFirst K (a_CN K) = true)) && ((decide (PySem.W.findIn K (.ref (a_CN K)) "__sub__" = some (some (.ref (a_fsub K))))) && ((decide (PySem.W.codeIn K (a_cdsub K) "Number.__sub__" = true)) && ((decide (PySem.W.keepIn K (.ref (a_fsub K)) = true)) && ((decide (PySem.W.isFn K (.ref (a_fsub K)) = true)) && ((decide (PySem.W.findIn K (.ref (a_CN K)) "__rsub__" = some none)) && ((Option.isSome (PySem.W.findIn K (.type "int") "__sub__")) && ((Option.isSome (PySem.W.findIn K (.type "int") "__rsub__")) && ((decide (PySem.W.findIn K (.ref (a_CN K)) "__mul__" = some (some (.ref (a_fmul K))))) && ((decide (PySem.W.codeIn K (a_cdmul K) "Number.__mul__" = true)) && ((decide (PySem.W.keepIn K (.ref (a_fmul K)) = true)) && ((decide (PySem.W.isFn K (.ref (a_fmul K)) = true)) && ((decide (PySem.W.findIn K (.ref (a_CN K)) "__rmul__" = some none)) && ((Option.isSome (PySem.W.findIn K (.type "int") "__mul__")) && ((Option.isSome (PySem.W.findIn K (.type "int") "__rmul__")) && ((decide (PySem.W.findIn K (.ref (a_CN K)) "over" = some (some (.ref (a_fm_over K))))) && ((decide (PySem.W.codeIn K (a_cdm_over K) "Number.over" = true)) && ((decide (PySem.W.keepIn K (.ref (a_fm_over K)) = true)) && true)))))))))))))))))))
def bx8 (K : PySem.W.Frag) : Bool := (decide (PySem.W.isFn K (.ref (a_fm_over K)) = true)) && ((decide (PySem.W.findIn K (.ref (a_CN K)) "compared" = some (some (.ref (a_fm_compared K))))) && ((decide (PySem.W.codeIn K (a_cdm_compared K) "Number.compared" = true)) && ((decide (PySem.W.keepIn K (.ref (a_fm_compared K)) = true)) && ((decide (PySem.W.isFn K (.ref (a_fm_compared K)) = true)) && ((decide (PySem.W.findIn K (.ref (a_CN K)) "sign" = some (some (.ref (a_dp_sign K))))) && ((decide (PySem.W.specialIn K (.ref (a_dp_sign K)) "__get__" = some (some (.builtin "property.__get__")))) && ((decide (PySem.W.takesIn K (.ref (a_dp_sign K)) = some true)) && ((PHD.recB K (a_dp_sign K) "property") && ((decide (PySem.W.codeIn K (a_cdp_sign K) "Number.sign" = true)) && ((decide (PySem.W.keepIn K (.ref (a_fp_sign K)) = true)) && ((decide (PySem.W.findIn K (.ref (a_CN K)) "top" = some (some (.ref (a_dp_top K))))) && ((decide (PySem.W.specialIn K (.ref (a_dp_top K)) "__get__" = some (some (.builtin "property.__get__")))) && ((decide (PySem.W.takesIn K (.ref (a_dp_top K)) = some true)) && ((PHD.recB K (a_dp_top K) "property") && ((decide (PySem.W.codeIn K (a_cdp_top K) "Number.top" = true)) && ((decide (PySem.W.keepIn K (.ref (a_fp_top K)) = true)) && ((decide (PySem.W.findIn K (.ref (a_CN K)) "part" = some (some (.ref (a_dp_part K))))) && ((decide (PySem.W.specialIn K (.ref (a_dp_part K)) "__get__" = some (some (.builtin "property.__get__")))) && ((decide (PySem.W.takesIn K (.ref (a_dp_part K)) = some true)) && true)))))))))))))))))))
def bx9 (K : PySem.W.Frag) : Bool := (PHD.recB K (a_dp_part K) "property") && ((decide (PySem.W.codeIn K (a_cdp_part K) "Number.part" = true)) && ((decide (PySem.W.keepIn K (.ref (a_fp_part K)) = true)) && ((decide (PySem.W.findIn K (.ref (a_CN K)) "root" = some (some (.ref (a_dp_root K))))) && ((decide (PySem.W.specialIn K (.ref (a_dp_root K)) "__get__" = some (some (.builtin "property.__get__")))) && ((decide (PySem.W.takesIn K (.ref (a_dp_root K)) = some true)) && ((PHD.recB K (a_dp_root K) "property") && ((decide (PySem.W.codeIn K (a_cdp_root K) "Number.root" = true)) && ((decide (PySem.W.keepIn K (.ref (a_fp_root K)) = true)) && ((decide (PySem.W.findIn K (.ref (a_CN K)) "bottom" = some (some (.ref (a_dp_bottom K))))) && ((decide (PySem.W.specialIn K (.ref (a_dp_bottom K)) "__get__" = some (some (.builtin "property.__get__")))) && ((decide (PySem.W.takesIn K (.ref (a_dp_bottom K)) = some true)) && ((PHD.recB K (a_dp_bottom K) "property") && ((decide (PySem.W.codeIn K (a_cdp_bottom K) "Number.bottom" = true)) && ((decide (PySem.W.keepIn K (.ref (a_fp_bottom K)) = true)) && ((decide (PySem.W.findIn K (.ref (a_CN K)) "__eq__" = some (some (.ref (a_feq K))))) && ((decide (PySem.W.codeIn K (a_cdeq K) "Number.__eq__" = true)) && ((decide (PySem.W.keepIn K (.ref (a_feq K)) = true)) && ((decide (PySem.W.isFn K (.ref (a_feq K)) = true)) && ((decide (PySem.W.findIn K (.ref (a_CN K)) "__ne__" = some (some (.builtin "object.__ne__")))) && true)))))))))))))))))))
def bx10 (K : PySem.W.Frag) : Bool := (decide (PySem.W.findIn K (.ref (a_CN K)) "__str__" = some (some (.ref (a_fstr K))))) && ((decide (PySem.W.codeIn K (a_cdstr K) "Number.__str__" = true)) && ((decide (PySem.W.keepIn K (.ref (a_fstr K)) = true)) && ((decide (PySem.W.isFn K (.ref (a_fstr K)) = true)) && ((decide (PySem.W.nsIn K mainGlobals "_law_dice" = some (some (.ref (a_ft12 K))))) && ((decide (PySem.W.codeIn K (a_cdt12 K) "_law_dice" = true)) && ((decide (PySem.W.keepIn K (.ref (a_ft12 K)) = true)) && ((decide (PySem.W.nsIn K mainGlobals "_law_roll" = some (some (.ref (a_ft13 K))))) && ((decide (PySem.W.codeIn K (a_cdt13 K) "_law_roll" = true)) && ((decide (PySem.W.keepIn K (.ref (a_ft13 K)) = true)) && ((decide (PySem.W.nsIn K mainGlobals "_law_pick" = some (some (.ref (a_ft14 K))))) && ((decide (PySem.W.codeIn K (a_cdt14 K) "_law_pick" = true)) && ((decide (PySem.W.keepIn K (.ref (a_ft14 K)) = true)) && ((decide (PySem.W.subIn K (.type "int") (.ref (a_CF K)) = some false)) && ((decide (PySem.W.subIn K (.type "bool") (.ref (a_CF K)) = some false)) && ((decide (PySem.W.subIn K (.type "str") (.ref (a_CF K)) = some false)) && ((decide (PySem.W.subIn K (.type "NoneType") (.ref (a_CF K)) = some false)) && ((decide (PySem.W.subIn K (.type "list") (.ref (a_CF K)) = some false)) && ((decide (PySem.W.subIn K (.type "tuple") (.ref (a_CF K)) = some false)) && ((decide (PySem.W.subIn K (.type "dict") (.ref (a_CF K)) = some false)) && true)))))))))))))))))))
def bx11 (K : PySem.W.Frag) : Bool := (decide (PySem.W.kitOne K (.ref (a_CN K)) (.ref (a_CF K)) = some false)) && ((decide (PySem.W.nsIn K mainGlobals "InvalidNumber" = some (some (.ref (a_A_InvalidNumber K))))) && ((decide (PySem.W.excIn K (a_A_InvalidNumber K) [.type "ValueError", .type "Exception", .type "BaseException", .type "object"] "ValueError.__new__" = true)) && ((decide (PySem.W.keepIn K (.ref (a_A_InvalidNumber K)) = true)) && ((decide (PySem.W.subIn K (.ref (a_A_InvalidNumber K)) (.type "BaseException") = some true)) && ((decide (PySem.W.typeIn K (.ref (a_A_InvalidNumber K)) = some (.type "type"))) && ((decide (PySem.W.nsIn K mainGlobals "InvalidOperation" = some (some (.ref (a_A_InvalidOperation K))))) && ((decide (PySem.W.excIn K (a_A_InvalidOperation K) [.type "ValueError", .type "Exception", .type "BaseException", .type "object"] "ValueError.__new__" = true)) && ((decide (PySem.W.keepIn K (.ref (a_A_InvalidOperation K)) = true)) && ((decide (PySem.W.subIn K (.ref (a_A_InvalidOperation K)) (.type "BaseException") = some true)) && ((decide (PySem.W.typeIn K (.ref (a_A_InvalidOperation K)) = some (.type "type"))) && ((decide (PySem.W.nsIn K mainGlobals "go_together" = some (some (.ref (a_ft15 K))))) && ((decide (PySem.W.codeIn K (a_cdt15 K) "go_together" = true)) && ((decide (PySem.W.keepIn K (.ref (a_ft15 K)) = true)) && ((decide (PySem.W.nsIn K mainGlobals "have_one_root" = some (some (.ref (a_ft16 K))))) && ((decide (PySem.W.codeIn K (a_cdt16 K) "have_one_root" = true)) && ((decide (PySem.W.keepIn K (.ref (a_ft16 K)) = true)) && ((decide (PySem.W.nsIn K mainGlobals "_law_made" = some (some (.ref (a_ft17 K))))) && ((decide (PySem.W.codeIn K (a_cdt17 K) "_law_made" = true)) && ((decide (PySem.W.keepIn K (.ref (a_ft17 K)) = true)) && true)))))))))))))))))))
def bx12 (K : PySem.W.Frag) : Bool := (decide (PySem.W.nsIn K mainGlobals "_law_word" = some (some (.ref (a_ft18 K))))) && ((decide (PySem.W.codeIn K (a_cdt18 K) "_law_word" = true)) && ((decide (PySem.W.keepIn K (.ref (a_ft18 K)) = true)) && ((decide (PySem.W.nsIn K mainGlobals "_law_wrong" = some (some (.ref (a_ft19 K))))) && ((decide (PySem.W.codeIn K (a_cdt19 K) "_law_wrong" = true)) && ((decide (PySem.W.keepIn K (.ref (a_ft19 K)) = true)) && ((decide (PySem.W.nsIn K mainGlobals "_law_used" = some (some (.ref (a_ft20 K))))) && ((decide (PySem.W.codeIn K (a_cdt20 K) "_law_used" = true)) && ((decide (PySem.W.keepIn K (.ref (a_ft20 K)) = true)) && ((decide (PySem.W.nsIn K mainGlobals "_law_makes" = some (some (.ref (a_ft21 K))))) && ((decide (PySem.W.codeIn K (a_cdt21 K) "_law_makes" = true)) && ((decide (PySem.W.keepIn K (.ref (a_ft21 K)) = true)) && ((decide ((a_cdt21 K) = .ref 420)) && ((decide (PySem.W.exmOne K (.ref (a_A_InvalidNumber K)) (.ref (a_A_InvalidNumber K)) = some true)) && ((decide (PySem.W.exmOne K (.ref (a_A_InvalidOperation K)) (.ref (a_A_InvalidNumber K)) = some false)) && ((decide (PySem.W.exmOne K (.ref (a_A_InvalidOperation K)) (.ref (a_A_InvalidOperation K)) = some true)) && ((decide (PySem.W.nsIn K mainGlobals "_law_reckons" = some (some (.ref (a_ft22 K))))) && ((decide (PySem.W.codeIn K (a_cdt22 K) "_law_reckons" = true)) && ((decide (PySem.W.keepIn K (.ref (a_ft22 K)) = true)) && ((decide ((a_cdt22 K) = .ref 434)) && true)))))))))))))))))))
def bx13 (K : PySem.W.Frag) : Bool := (decide (PySem.W.nsIn K mainGlobals "_law_together" = some (some (.ref (a_ft23 K))))) && ((decide (PySem.W.codeIn K (a_cdt23 K) "_law_together" = true)) && ((decide (PySem.W.keepIn K (.ref (a_ft23 K)) = true)) && ((decide ((a_cdt23 K) = .ref 439)) && ((decide (PySem.W.nsIn K mainGlobals "law" = some (some (.ref (a_ft24 K))))) && ((decide (PySem.W.codeIn K (a_cdt24 K) "law" = true)) && ((decide (PySem.W.keepIn K (.ref (a_ft24 K)) = true)) && ((PHD.intB K "LEAST_ROOT" 2) && ((PHD.intB K "MAX_ROOT" 999) && true))))))))
def bp0 (K : PySem.W.Frag) : Bool := bx0 K && (bx4 K && (bx8 K && (bx12 K && true)))
def bp1 (K : PySem.W.Frag) : Bool := bx1 K && (bx5 K && (bx9 K && (bx13 K && true)))
def bp2 (K : PySem.W.Frag) : Bool := bx2 K && (bx6 K && (bx10 K && true))
def bp3 (K : PySem.W.Frag) : Bool := bx3 K && (bx7 K && (bx11 K && true))
def bx (K : PySem.W.Frag) : Bool := bp0 K && (bp1 K && (bp2 K && (bp3 K)))
def fx0 (K : PySem.W.Frag) : List PHD.FwT := [PHD.fw K (a_ft0 K), PHD.fw K (a_ft1 K), PHD.fw K (a_ft2 K), PHD.fw K (a_ft3 K), PHD.fw K (a_ft4 K), PHD.fw K (a_ft5 K), PHD.fw K (a_ft6 K), PHD.fw K (a_ffi K), PHD.fw K (a_ft7 K), PHD.fwN K (a_fni K), PHD.fw K (a_ft8 K), PHD.fw K (a_ft9 K), PHD.fw K (a_ft10 K), PHD.fw K (a_ft11 K), PHD.fw K (a_fadd K), PHD.fw K (a_fsub K), PHD.fw K (a_fmul K), PHD.fw K (a_fm_over K), PHD.fw K (a_fm_compared K), PHD.fw K (a_fp_sign K)]
def vx0 : List PHD.FwT := [PHD.fwV "is_whole" "is_whole" (defArgs (topS 7)) (defBody (topS 7)) (defScope (topS 7)), PHD.fwV "greatest_divisor" "greatest_divisor" (defArgs (topS 8)) (defBody (topS 8)) (defScope (topS 8)), PHD.fwV "whole_root" "whole_root" (defArgs (topS 9)) (defBody (topS 9)) (defScope (topS 9)), PHD.fwV "is_root" "is_root" (defArgs (topS 15)) (defBody (topS 15)) (defScope (topS 15)), PHD.fwV "sign_of" "sign_of" (defArgs (topS 16)) (defBody (topS 16)) (defScope (topS 16)), PHD.fwV "sign_of_sum" "sign_of_sum" (defArgs (topS 17)) (defBody (topS 17)) (defScope (topS 17)), PHD.fwV "told_number" "told_number" (defArgs (topS 18)) (defBody (topS 18)) (defScope (topS 18)), PHD.fwV "__init__" "Form.__init__" (defArgs (inClass (topS 19) 1)) (defBody (inClass (topS 19) 1)) (defScope (inClass (topS 19) 1)), PHD.fwV "form_in" "form_in" (defArgs (topS 20)) (defBody (topS 20)) (defScope (topS 20)), PHD.fwV "__init__" "Number.__init__" (defArgs (inClass (topS 21) 1)) (defBody (inClass (topS 21) 1)) (defScope (inClass (topS 21) 1)), PHD.fwV "is_like_number" "is_like_number" (defArgs (topS 22)) (defBody (topS 22)) (defScope (topS 22)), PHD.fwV "number_of" "number_of" (defArgs (topS 23)) (defBody (topS 23)) (defScope (topS 23)), PHD.fwV "required" "required" (defArgs (topS 24)) (defBody (topS 24)) (defScope (topS 24)), PHD.fwV "common_root" "common_root" (defArgs (topS 25)) (defBody (topS 25)) (defScope (topS 25)), PHD.fwV "__add__" "Number.__add__" (defArgs (inClass (topS 21) 13)) (defBody (inClass (topS 21) 13)) (defScope (inClass (topS 21) 13)), PHD.fwV "__sub__" "Number.__sub__" (defArgs (inClass (topS 21) 14)) (defBody (inClass (topS 21) 14)) (defScope (inClass (topS 21) 14)), PHD.fwV "__mul__" "Number.__mul__" (defArgs (inClass (topS 21) 15)) (defBody (inClass (topS 21) 15)) (defScope (inClass (topS 21) 15)), PHD.fwV "over" "Number.over" (defArgs (inClass (topS 21) 12)) (defBody (inClass (topS 21) 12)) (defScope (inClass (topS 21) 12)), PHD.fwV "compared" "Number.compared" (defArgs (inClass (topS 21) 11)) (defBody (inClass (topS 21) 11)) (defScope (inClass (topS 21) 11)), PHD.fwV "sign" "Number.sign" (defArgs (inClass (topS 21) 7)) (defBody (inClass (topS 21) 7)) (defScope (inClass (topS 21) 7))]
def fx1 (K : PySem.W.Frag) : List PHD.FwT := [PHD.fw K (a_fp_top K), PHD.fw K (a_fp_part K), PHD.fw K (a_fp_root K), PHD.fw K (a_fp_bottom K), PHD.fw K (a_feq K), PHD.fw K (a_fstr K), PHD.fw K (a_ft12 K), PHD.fw K (a_ft13 K), PHD.fw K (a_ft14 K), PHD.fw K (a_ft15 K), PHD.fw K (a_ft16 K), PHD.fw K (a_ft17 K), PHD.fw K (a_ft18 K), PHD.fw K (a_ft19 K), PHD.fw K (a_ft20 K), PHD.fw K (a_ft21 K), PHD.fw K (a_ft22 K), PHD.fw K (a_ft23 K), PHD.fw K (a_ft24 K)]
def vx1 : List PHD.FwT := [PHD.fwV "top" "Number.top" (defArgs (inClass (topS 21) 3)) (defBody (inClass (topS 21) 3)) (defScope (inClass (topS 21) 3)), PHD.fwV "part" "Number.part" (defArgs (inClass (topS 21) 4)) (defBody (inClass (topS 21) 4)) (defScope (inClass (topS 21) 4)), PHD.fwV "root" "Number.root" (defArgs (inClass (topS 21) 5)) (defBody (inClass (topS 21) 5)) (defScope (inClass (topS 21) 5)), PHD.fwV "bottom" "Number.bottom" (defArgs (inClass (topS 21) 6)) (defBody (inClass (topS 21) 6)) (defScope (inClass (topS 21) 6)), PHD.fwV "__eq__" "Number.__eq__" (defArgs (inClass (topS 21) 17)) (defBody (inClass (topS 21) 17)) (defScope (inClass (topS 21) 17)), PHD.fwV "__str__" "Number.__str__" (defArgs (inClass (topS 21) 18)) (defBody (inClass (topS 21) 18)) (defScope (inClass (topS 21) 18)), PHD.fwV "_law_dice" "_law_dice" (defArgs (topS 32)) (defBody (topS 32)) (defScope (topS 32)), PHD.fwV "_law_roll" "_law_roll" (defArgs (topS 33)) (defBody (topS 33)) (defScope (topS 33)), PHD.fwV "_law_pick" "_law_pick" (defArgs (topS 34)) (defBody (topS 34)) (defScope (topS 34)), PHD.fwV "go_together" "go_together" (defArgs (topS 26)) (defBody (topS 26)) (defScope (topS 26)), PHD.fwV "have_one_root" "have_one_root" (defArgs (topS 27)) (defBody (topS 27)) (defScope (topS 27)), PHD.fwV "_law_made" "_law_made" (defArgs (topS 35)) (defBody (topS 35)) (defScope (topS 35)), PHD.fwV "_law_word" "_law_word" (defArgs (topS 36)) (defBody (topS 36)) (defScope (topS 36)), PHD.fwV "_law_wrong" "_law_wrong" (defArgs (topS 37)) (defBody (topS 37)) (defScope (topS 37)), PHD.fwV "_law_used" "_law_used" (defArgs (topS 39)) (defBody (topS 39)) (defScope (topS 39)), PHD.fwV "_law_makes" "_law_makes" (defArgs (topS 38)) (defBody (topS 38)) (defScope (topS 38)), PHD.fwV "_law_reckons" "_law_reckons" (defArgs (topS 40)) (defBody (topS 40)) (defScope (topS 40)), PHD.fwV "_law_together" "_law_together" (defArgs (topS 41)) (defBody (topS 41)) (defScope (topS 41)), PHD.fwV "law" "law" (defArgs (topS 42)) (defBody (topS 42)) (defScope (topS 42))]
def fx (K : PySem.W.Frag) : List PHD.FwT := fx0 K ++ (fx1 K ++ [])
def vx : List PHD.FwT := vx0 ++ (vx1 ++ [])
abbrev R : PySem.W.OpenRow := PySem.W.OpenLaw.row PySem.Challenge.rw_pieceround_k05_errors_of_numbers
def nm0 : List PySem.Str := ["_wall", "PieceError", "InvalidNumber", "InvalidOperation", "ParseError", "is_whole", "greatest_divisor", "whole_root", "MAX_ROOT", "LEAST_ROOT", "MOST_FIGURES", "FIGURES", "is_root", "sign_of", "sign_of_sum", "told_number", "Form", "form_in", "Number", "is_like_number", "number_of", "required", "common_root", "go_together", "have_one_root", "integer_in", "parts_in", "number_in", "_law_dice", "_law_roll"]
def nm1 : List PySem.Str := ["_law_pick", "_law_made", "_law_word", "_law_wrong", "_law_makes", "_law_used", "_law_reckons", "_law_together"]
abbrev nms : List PySem.Str := nm0 ++ nm1
abbrev vw : Program := PySem.W.view R.prog [42]
def tbs : List (Addr × Addr) := [(420, 416), (434, 430), (439, 437)]
abbrev hk : PySem.W.Hook := PHD.hookT tbs bx fx vx
noncomputable abbrev EF (w : World) (os : OsState) : Option PySem.W.SharedT := HandSHeadRun.endF (HandSHeadRun.stepQ (HandSHeadRun.denQ HandSHeadRun.tabQ) R.prog w) 20000 R.prog w os
theorem r1 (w : World) (os : OsState) : (EF w os).map (fun s => HandSHeadRun.looksF R.prog (PySem.W.boot_heap w.params) s.abs) = some true := by
  kernel_rfl
theorem r2 (w : World) (os : OsState) : (EF w os).map (fun s => HandSHeadRun.seenQ vw nms (importedModules R.prog.main.body) (fun s => PySem.W.xlAt vw [] s && PySem.W.recOk R.toRowW.records s) s.abs) = some (PySem.W.openGood vw nms) := by
  kernel_rfl
theorem r3_0 (w : World) (os : OsState) : (EF w os).map (fun s => bp0 (He.frG (HandSHeadRun.getT s) (PHD.asT (HandSHeadRun.getT s)))) = some true := by
  kernel_rfl
theorem r3_1 (w : World) (os : OsState) : (EF w os).map (fun s => bp1 (He.frG (HandSHeadRun.getT s) (PHD.asT (HandSHeadRun.getT s)))) = some true := by
  kernel_rfl
theorem r3_2 (w : World) (os : OsState) : (EF w os).map (fun s => bp2 (He.frG (HandSHeadRun.getT s) (PHD.asT (HandSHeadRun.getT s)))) = some true := by
  kernel_rfl
theorem r3_3 (w : World) (os : OsState) : (EF w os).map (fun s => bp3 (He.frG (HandSHeadRun.getT s) (PHD.asT (HandSHeadRun.getT s)))) = some true := by
  kernel_rfl
theorem r3 (w : World) (os : OsState) : (EF w os).map (fun s => bx (He.frG (HandSHeadRun.getT s) (PHD.asT (HandSHeadRun.getT s)))) = some true := PHD.map_and (r3_0 w os) (PHD.map_and (r3_1 w os) (PHD.map_and (r3_2 w os) (r3_3 w os)))
theorem r4 (w : World) (os : OsState) : (EF w os).map (fun s => fx (He.frG (HandSHeadRun.getT s) (PHD.asT (HandSHeadRun.getT s)))) = some vx := by
  kernel_rfl
theorem r3t (w : World) (os : OsState) : (EF w os).map (fun s => PHD.tabsB tbs (HandSHeadRun.getT s) && PHD.tabsK tbs (He.frG (HandSHeadRun.getT s) (PHD.asT (HandSHeadRun.getT s)))) = some true := by
  kernel_rfl
theorem r34 (w : World) (os : OsState) : (EF w os).map (fun s => PHD.obT tbs bx fx s) = some (true, vx) := PHD.map2 (PHD.map_and (r3t w os) (r3 w os)) (r4 w os)
end PH
set_option maxHeartbeats 4000000
namespace PF
open PySem PySem.Spec PyProof.Rows L2 SlX
section
variable {X : Cx} {CX : CXT} {C g : Addr} {n : Nat} {sp : Sp} {E : XK}
def CDvz (_ j : Int) : Prop := j ≠ 0 ∧ j.natAbs.log2 < 9000
theorem op_fdivZ : OpR X (binaryOp .FloorDiv) (rI CDvz fun i j => .int (i.fdiv j)) :=
  opI fun _ _ _ _ _ _ _ c k => floordiv_int c.1 k (.inl (PyProof.noPylong_of_log2 c.2))
def rBinS (C : Addr) (sp : Sp) (E : XK) : R2 := fun x y H Q => ∃ a dx vs b dy ws, x = .ref a ∧ y = .ref b ∧ Slt H a C dx vs ∧ Slt H b C dy ws ∧ sp [x, y] H Q E
def rBinI (C : Addr) (sp : Sp) (E : XK) : R2 := fun x y H Q => ∃ a dx vs i, x = .ref a ∧ y = .int i ∧ Slt H a C dx vs ∧ sp [x, y] H Q E
theorem op_binS {op : Operator} (h1 : PySem.W.selfFirst X.K C = true) (h2 : PySem.W.findIn X.K (.ref C) (PySem.dunder op.info.2) = some (some (.ref g))) (h3 : PySem.W.isFn X.K (.ref g) = true)
    (F : FnR X.prog X.w X.K X.mg X.base CX n g sp) (hr : Room n X.A) (hx : Passes CX X E) : OpR X (binaryOp op) (rBinS C sp E) := by
  intro pins st sg HH x y v u Qk J rx ry k
  obtain ⟨a, dx, vs, b, dy, ws, rfl, rfl, sa, sb, k⟩ := k
  cases (show v = Value.ref a from rx)
  cases (show u = Value.ref b from ry)
  obtain ⟨_, _, _, ja, _⟩ := slt_inst J sa
  obtain ⟨_, _, _, jb, _⟩ := slt_inst J sb
  obtain ⟨_, fr⟩ := J.fr
  refine PySem.W.binop_K fr J.ok.mod.kin ja jb.type h1 h2 h3 ?_
  exact wpAny_mono (wpAny_call (run_fnR (us := [.ref a, .ref b]) (vs := [.ref a, .ref b]) F hr hx J (.cons rfl (.cons rfl .nil)) k))
    (fun _ _ ⟨z, H3, J3, rz, k3⟩ => cmpback rz ⟨z, H3, J3, rz, k3⟩) fun _ _ e => e
theorem op_binI {op : Operator} {fo ro rc : Option Value} (h1 : PySem.W.selfFirst X.K C = true) (h2 : PySem.W.findIn X.K (.ref C) (PySem.dunder op.info.2) = some (some (.ref g))) (h3 : PySem.W.isFn X.K (.ref g) = true)
    (h4 : PySem.W.findIn X.K (.ref C) (PySem.dunderR op.info.2) = some rc) (h5 : rc = none ∨ ∃ g : Addr, rc = some (.ref g)) (h6 : PySem.W.findIn X.K (.type "int") (PySem.dunder op.info.2) = some fo)
    (h7 : PySem.W.findIn X.K (.type "int") (PySem.dunderR op.info.2) = some ro) (h8 : PySem.W.subIn X.K (.type "int") (.ref C) = some false)
    (F : FnR X.prog X.w X.K X.mg X.base CX n g sp) (hr : Room n X.A) (hx : Passes CX X E) : OpR X (binaryOp op) (rBinI C sp E) := by
  intro pins st sg HH x y v u Qk J rx ry k
  obtain ⟨a, dx, vs, i, rfl, rfl, sa, k⟩ := k
  cases (show v = Value.ref a from rx)
  obtain ⟨t, et⟩ := (show ∃ t, u = Value.int i t from ry)
  subst et
  obtain ⟨_, _, _, ja, _⟩ := slt_inst J sa
  obtain ⟨_, fr⟩ := J.fr
  refine PySem.W.ksp_binT fr J.ok.mod.kin ja rfl h1 h2 h3 h4 h5 h6 h7 h8 ?_
  exact wpAny_mono (wpAny_call (run_fnR (us := [.ref a, .int i t]) (vs := [.ref a, .int i]) F hr hx J (.cons rfl (.cons ⟨t, rfl⟩ .nil)) k))
    (fun _ _ ⟨z, H3, J3, rz, k3⟩ => cmpback rz ⟨z, H3, J3, rz, k3⟩) fun _ _ e => e
end
def FnG (P : Program) (w : World) (K : PySem.W.Frag) (mg : Str → Option Value) (base : Heap) (k : Nat) (f : Addr) (m : Nat) (sp : Sp) : Prop :=
  ∀ (Ar : Around) (out : List Env) (st : Shared) (G : Hp) (us : List Value) (vs : List V) (R : VK), Ar.guards = some [] → Room k Ar → Env0 P w K mg base Ar out st G → vs.length = m → Vals vs us → sp vs G R E0 →
    codeAny (model P w) Ar (.call (.ref f) ⟨us, []⟩) (CR CX0 out P w G st R E0) st
section
variable {P : Program} {w : World} {K : PySem.W.Frag} {mg : Str → Option Value} {base : Heap} {k : Nat} {f : Addr} {fd : FuncData} {N ps : List Str} {sp : Sp}
theorem FnG.mono {j : Nat} {m : Nat} (F : FnG P w K mg base j f m sp) (h : j ≤ k) : FnG P w K mg base k f m sp := fun Ar out st G us vs R a b => F Ar out st G us vs R a (b.mono h)
theorem FnG.of (F : FnOk P w K mg base CX0 k f fd ps sp) (b : Binds K fd ps []) : FnG P w K mg base k f ps.length sp := fun Ar out st G us vs R _ hr e0 hl r h => by
  have KX : K.In st.heap := e0.mod.kin.keeps fun b o e => (e0.bs b o e).1
  have l2 : us.length = ps.length := r.length.symm.trans hl
  have b2 := b st us KX (by simpa using l2)
  rw [List.append_nil] at b2
  exact F.run Ar out st G ⟨us, []⟩ us vs R E0 hr e0 b2 r h
theorem Fun.okG {x qual : Str} {sm : Stmt} (F : Fun K x qual sm f fd) (S : FnScope N ps (defScope sm)) (b : Binds K fd ps [])
    (body : ∀ (cdv : Value) (Ar : Around) (out : List Env) (st : Shared) (G : Hp) (vs : List V) (R : VK), Ar.guards = some [] → Room k (Ar.deeper (envOfC qual (defScope sm) st.heap.objs.size f cdv)) → sp vs G R E0 →
      ∃ t, PSs (cxOf CX0 P w K mg base N qual (defScope sm) f cdv Ar out st G E0).nox (defBody sm) t ∧ t { nx := fun _ H' => R .non H', rt := R } (start N vs) G) : FnG P w K mg base (k + 1) f ps.length sp := by
  intro Ar out st G us vs R hg hr e0 hl r hsp
  obtain ⟨oc, od, kV, doc, pm, an, cdv, ct, osl, rfl, lk, hcd⟩ := F.ex
  have KX : K.In st.heap := e0.mod.kin.keeps fun b o e => (e0.bs b o e).1
  have l2 : us.length = ps.length := r.length.symm.trans hl
  have b2 := b st us KX (by simpa using l2)
  rw [List.append_nil] at b2
  have kinds : ∀ y ∈ ps.zip us, (defScope sm).names.lookup y.1 = some .local ∨ ((defScope sm).names.lookup y.1 = some .cell ∧ ((cellsFrom (st.heap.objs.size + 1) (defScope sm).names []).lookup y.1).isSome = true) := fun y hy =>
    (S.par y.1 (List.of_mem_zip (a := y.1) (b := y.2) hy).1).imp id fun q => ⟨q, PySem.W.cellsFrom_some _ _ _ (.inl q)⟩
  refine codeAny_call_function hr.depth (KX _ _ lk) rfl S.co S.gen rfl (PySem.W.codeRec_of KX hcd) (b2 _ _ _ _ (wpAny_newFunctionEnv_cells S.kind kinds fun ev hev s1 x => ?_))
  subst hev
  refine ⟨(e0.mod.nolimit.keeps fun b o e => (e0.bs b o e).1).keeps x.toInCall.keep, codeAny_func ?_⟩
  obtain ⟨t, ht, hq⟩ := body cdv Ar out st G vs R hg (hr.deeper _) hsp
  have J : Inv (cxOf CX0 P w K mg base N qual (defScope sm) f cdv Ar out st G E0) [] (start N vs) G s1 := inv_start S hr.hd e0 hl r x
  refine wpAny_mono (ht.nox.run [] s1 (start N vs) G _ J hq) (fun fl s' hs => ?_) fun _ _ z => z
  cases fl with
  | ret u => obtain ⟨v, _, G', J', rv, q⟩ := hs; exact ⟨v, G', J'.os, J'.bare, J'.base, J'.hok, rv, q⟩
  | next => obtain ⟨_, G', J', q⟩ := hs; exact ⟨V.non, G', J'.os, J'.bare, J'.base, J'.hok, rfl, q⟩
  | brk => obtain ⟨_, _, _, q⟩ := hs; exact q.elim
  | cont => obtain ⟨_, _, _, q⟩ := hs; exact q.elim
end
section
variable {X : Cx} {k m : Nat} {f : Addr} {sp : Sp} {x : Str} {p pos : Pos} {e : Expr} {es : List Expr} {t : TA}
theorem run_fnG {pins : List (Addr × Obj)} {st : Shared} {sg : L2.St} {G : Hp} {R : VK} {us : List Value} {vs : List V} (F : FnG X.prog X.w X.K X.mg X.base k f m sp) (hg : X.A.guards = some []) (hr : Room k X.A)
    (J : Inv X pins sg G st) (r : Vals vs us) (hl : vs.length = m) (h : sp vs G R E0) : wpAny (model X.prog X.w) X.A (call (.ref f) us) (EP X pins sg R) X.xe st := by
  refine wpAny_call (codeAny_mono (F X.A X.stack st G us vs R hg hr J.env0 hl r h) fun rr s' hq => ?_)
  cases rr with
  | error e => exact hq.elim
  | ok fl => cases fl with
    | ret u => exact J.after hq
    | next => exact hq.elim
    | brk => exact hq.elim
    | cont => exact hq.elim
def rRepr (K : PySem.W.Frag) : List V → Hp → VK → Prop := fun xs H Q => ∃ v d, xs = [v] ∧ Dp K H v d ∧ d.showable = true ∧ d.hasDict = false ∧ d.shown.length ≤ sizeLine ∧ d.depth ≤ 64 ∧ Q (.str d.shown) H
theorem call_repr (hg : X.A.guards = some []) (hu : X.A.units + 100 < cLine) : CallR X (.builtin "repr") (rRepr X.K) := by
  intro pins st sg G xs us R J r h
  obtain ⟨v, d, rfl, hd, h1, h2, h3, h4, q⟩ := h
  obtain ⟨u, rfl, ru⟩ := r.one
  obtain ⟨as, rd⟩ := Dp.reads J d v u hd ru
  cases rd with
  | none => exact PySem.P.repr_of_none ⟨V.str (PyData.shown .none), G, J.tok _, ⟨_, rfl⟩, q⟩
  | bool b => exact PySem.P.repr_of_bool ⟨V.str (PyData.shown (.bool b)), G, J.tok _, ⟨_, rfl⟩, q⟩
  | int i t => exact PySem.P.repr_of_int (by simpa [PyData.showable] using h1) ⟨V.str (PyData.shown (.int i)), G, J.tok _, ⟨_, rfl⟩, q⟩
  | str x t => exact PySem.P.repr_of_str ⟨V.str (PyData.shown (.str x)), G, J.tok _, ⟨_, rfl⟩, q⟩ (by simpa only [PyData.shown] using h3)
  | list a1 a2 a3 a4 =>
    exact repr_of_reads' (.list a1 a2 a3 a4) h1 (fun z => by rw [h2] at z; cases z) hg (by omega) (fun _ _ e => e) (fun h' u tk hk => ⟨V.str (PyData.shown _), G, J.kept hk, ⟨_, rfl⟩, q⟩) h3
  | tuple a1 a2 a3 a4 =>
    exact repr_of_reads' (.tuple a1 a2 a3 a4) h1 (fun z => by rw [h2] at z; cases z) hg (by omega) (fun _ _ e => e) (fun h' u tk hk => ⟨V.str (PyData.shown _), G, J.kept hk, ⟨_, rfl⟩, q⟩) h3
  | dict _ _ _ _ _ => cases h2
end
structure GD (P : Program) (w : World) (K : PySem.W.Frag) (mg : Str → Option Value) (base : Heap) (x : Str) (k : Nat) (sp : Sp) : Prop where
  ex : ∃ f fd ps, mg x = some (.ref f) ∧ PySem.W.keepIn K (.ref f) = true ∧ Binds K fd ps [] ∧ FnOk P w K mg base CX0 k f fd ps sp
structure GG (P : Program) (w : World) (K : PySem.W.Frag) (mg : Str → Option Value) (base : Heap) (x : Str) (k m : Nat) (sp : Sp) : Prop where
  ex : ∃ f, mg x = some (.ref f) ∧ PySem.W.keepIn K (.ref f) = true ∧ FnG P w K mg base k f m sp
theorem GD.gg {P : Program} {w : World} {K : PySem.W.Frag} {mg : Str → Option Value} {base : Heap} {x : Str} {k m : Nat} {sp : Sp} (G : GD P w K mg base x k sp) (h : ∀ vs H Q E, sp vs H Q E → vs.length = m) : GG P w K mg base x k m sp := by
  obtain ⟨f, fd, ps, h1, h2, h3, h4⟩ := G.ex
  refine ⟨f, h1, h2, fun Ar out st G2 us vs R hg hr e0 hl r hs => ?_⟩
  have e : ps.length = m := (h4.len _ _ _ _ hs).symm.trans (h _ _ _ _ hs)
  exact FnG.of h4 h3 Ar out st G2 us vs R hg hr e0 (hl.trans e.symm) r hs
section
variable {X : Cx} {k m : Nat} {sp : Sp} {x : Str} {p pos : Pos} {e : Expr} {es : List Expr} {t : TA}
theorem pe_c1 (G : GD X.prog X.w X.K X.mg X.base x k sp) (hr : Room k X.A) (ha : PA X (e :: es) t) (gl : Gl X x := by rfl) (hdb : (x == ("__debug__" : Str)) = false := by decide)
    (he : starEach (e :: es) X.env = (false, eval e X.env) :: starEach es X.env := by rfl) (hpl : (backTo pos (starEach es X.env)).any (·.1) = false := by rfl) : PE X (.Call (.Name x p) (e :: es) [] pos) (tCall sp [] E0 t) := by
  obtain ⟨f, fd, ps, h1, h2, h3, h4⟩ := G.ex
  exact pe_call h4 hr gl h1 h2 h3 .nil pass0 ha hdb he hpl
def tCallG (sp : Sp) (m : Nat) (t : TA) : TE := fun σ H Q => t σ H fun vs H1 => vs.length = m ∧ sp vs H1 Q E0
theorem pe_gd (G : GG X.prog X.w X.K X.mg X.base x k m sp) (hg : X.A.guards = some []) (hr : Room k X.A) (ha : PA X (e :: es) t) (gl : Gl X x := by rfl) (hdb : (x == ("__debug__" : Str)) = false := by decide)
    (he : starEach (e :: es) X.env = (false, eval e X.env) :: starEach es X.env := by rfl) (hpl : (backTo pos (starEach es X.env)).any (·.1) = false := by rfl) : PE X (.Call (.Name x p) (e :: es) [] pos) (tCallG sp m t) := by
  obtain ⟨f, h1, h2, h4⟩ := G.ex
  refine ⟨fun pins st sg G R J h => wpAny_Call_Name_kw (ld_glob J gl h1 ?_ hdb)⟩
  refine PySem.W.callWith_K (h₀ := X.base) J.ok.mod.kin h2 (thn (ha.run pos pins st sg G _ J h) fun us s1 ⟨vs, G1, J1, r, hl, q⟩ => ⟨J1.kIn, ?_⟩) he hpl
  exact run_fnG h4 hg hr J1 r hl q
end
structure GM (P : Program) (w : World) (K : PySem.W.Frag) (mg : Str → Option Value) (base : Heap) (x : Str) (C : Addr) (k : Nat) (dvs : List V) (sp : Sp) : Prop where
  ex : ∃ f fd ps ds, mg x = some (.ref C) ∧ Mk K C f ∧ Binds K fd ps ds ∧ Vals dvs ds ∧ FnOk P w K mg base CX0 k f fd ps sp
theorem pe_m1 {X : Cx} {k : Nat} {sp : Sp} {x : Str} {C : Addr} {dvs : List V} {p pos : Pos} {e : Expr} {es : List Expr} {t : TA} (G : GM X.prog X.w X.K X.mg X.base x C k dvs sp) (hr : Room (k + 1) X.A) (ha : PA X (e :: es) t) (gl : Gl X x := by rfl) (hdb : (x == ("__debug__" : Str)) = false := by decide)
    (he : starEach (e :: es) X.env = (false, eval e X.env) :: starEach es X.env := by rfl) (hpl : (backTo pos (starEach es X.env)).any (·.1) = false := by rfl) : PE X (.Call (.Name x p) (e :: es) [] pos) (tMake C sp dvs E0 t) := by
  obtain ⟨f, fd, ps, ds, h1, h2, h3, h4, h5⟩ := G.ex
  exact pe_make h2 h5 hr gl h1 h3 h4 pass0 ha hdb he hpl
theorem fnR_of {P : Program} {w : World} {K : PySem.W.Frag} {mg : Str → Option Value} {base : Heap} {k : Nat} {f : Addr} {fd : FuncData} {ps : List Str} {sp : Sp} (F : FnOk P w K mg base CX0 k f fd ps sp) (b : Binds K fd ps []) : FnR P w K mg base CX0 k f sp := fun Ar out st G us vs R E hr e0 r h => by
  have KX : K.In st.heap := e0.mod.kin.keeps fun b o e => (e0.bs b o e).1
  have l2 : us.length = ps.length := r.length.symm.trans (F.len _ _ _ _ h)
  have b2 := b st us KX (by simpa using l2)
  rw [List.append_nil] at b2
  exact F.run Ar out st G ⟨us, []⟩ us vs R E hr e0 b2 r h
structure GP (P : Program) (w : World) (K : PySem.W.Frag) (mg : Str → Option Value) (base : Heap) (C : Addr) (f : Str) (k : Nat) (sp : Sp) : Prop where
  ex : ∃ p g, PySem.W.findIn K (.ref C) f = some (some (.ref p)) ∧ PySem.W.specialIn K (.ref p) "__get__" = some (some (.builtin "property.__get__")) ∧ PySem.W.takesIn K (.ref p) = some true ∧ (∃ rest, PySem.W.recIn K p "property" = some (.ref g :: rest)) ∧ FnR P w K mg base CX0 k g sp
theorem pe_p1 {X : Cx} {C : Addr} {f : Str} {k : Nat} {sp : Sp} {e : Expr} {te : TE} {pos : Pos} (c : SCls X.K C) (G : GP X.prog X.w X.K X.mg X.base C f k sp) (hr : Room (k + 1) X.A) (he : PE X e te) (hb : attributeBase e f X.env (eval e X.env) = eval e X.env := by rfl) : PE X (.Attribute e f pos) (tPropSl C sp E0 te) := by
  obtain ⟨p, g, h1, h2, h3, h4, h5⟩ := G.ex
  exact pe_propSl he c h1 h2 h3 h4 h5 hr (fun _ _ _ _ h => h) hb
structure GMe (P : Program) (w : World) (K : PySem.W.Frag) (mg : Str → Option Value) (base : Heap) (C : Addr) (m : Str) (k : Nat) (sp : Sp) : Prop where
  ex : ∃ g, Meth K C m g ∧ FnR P w K mg base CX0 k g sp
structure GB (P : Program) (w : World) (K : PySem.W.Frag) (mg : Str → Option Value) (base : Heap) (C : Addr) (op : Operator) (k : Nat) (sp : Sp) : Prop where
  ex : ∃ g, PySem.W.findIn K (.ref C) (PySem.dunder op.info.2) = some (some (.ref g)) ∧ PySem.W.isFn K (.ref g) = true ∧ FnR P w K mg base CX0 k g sp
  first : PySem.W.selfFirst K C = true
  right : ∃ fo ro rc, PySem.W.findIn K (.ref C) (PySem.dunderR op.info.2) = some rc ∧ (rc = none ∨ ∃ g : Addr, rc = some (.ref g)) ∧ PySem.W.findIn K (.type "int") (PySem.dunder op.info.2) = some fo ∧ PySem.W.findIn K (.type "int") (PySem.dunderR op.info.2) = some ro ∧ PySem.W.subIn K (.type "int") (.ref C) = some false
def rBin (C : Addr) (sp : Sp) : R2 := fun x y H Q => (∃ a dx vs, x = .ref a ∧ Slt H a C dx vs) ∧ ((∃ b dy ws, y = .ref b ∧ Slt H b C dy ws) ∨ ∃ i, y = .int i) ∧ sp [x, y] H Q E0
theorem op_b {X : Cx} {C : Addr} {op : Operator} {k : Nat} {sp : Sp} (G : GB X.prog X.w X.K X.mg X.base C op k sp) (hr : Room k X.A) : OpR X (binaryOp op) (rBin C sp) := by
  obtain ⟨g, h1, h2, h3⟩ := G.ex
  obtain ⟨fo, ro, rc, r1, r2, r3, r4, r5⟩ := G.right
  intro pins st sg HH x y v u Qk J rx ry k
  obtain ⟨⟨a, dx, vs, e, hs⟩, ⟨b, dy, ws, e2, hs2⟩ | ⟨i, e2⟩, k⟩ := k
  · exact op_binS G.first h1 h2 h3 hr pass0 pins st sg HH x y v u Qk J rx ry ⟨a, dx, vs, b, dy, ws, e, e2, hs, hs2, k⟩
  · exact op_binI G.first h1 h2 r1 r2 r3 r4 r5 h3 hr pass0 pins st sg HH x y v u Qk J rx ry ⟨a, dx, vs, i, e, e2, hs, k⟩
structure GN (P : Program) (w : World) (K : PySem.W.Frag) (mg : Str → Option Value) (base : Heap) (C : Addr) (k : Nat) (sp : Sp) : Prop where
  ex : ∃ g, PySem.W.findIn K (.ref C) "__neg__" = some (some (.ref g)) ∧ PySem.W.isFn K (.ref g) = true ∧ FnR P w K mg base CX0 k g sp
structure GE (P : Program) (w : World) (K : PySem.W.Frag) (mg : Str → Option Value) (base : Heap) (C : Addr) (k : Nat) (sp : Sp) : Prop where
  ex : ∃ g, PySem.W.findIn K (.ref C) "__eq__" = some (some (.ref g)) ∧ PySem.W.isFn K (.ref g) = true ∧ FnR P w K mg base CX0 k g sp
  ne : PySem.W.findIn K (.ref C) "__ne__" = some (some (.builtin "object.__ne__"))
  ob : PySem.W.mroIn K C (.type "object") = some true
def tSlC (C : Addr) (i : Nat) (ta : TE) : TE := fun σ H Q => ta σ H fun x H1 => ∃ a dx vs v, x = .ref a ∧ Slt H1 a C dx vs ∧ vs[i]? = some (some v) ∧ Q v H1
def sSlC (C : Addr) (i : Nat) (ta tv : TE) : TS := fun D σ H => tv σ H fun y H1 => ta σ H1 fun x H2 => ∃ a dx vs, x = .ref a ∧ Slt H2 a C dx vs ∧ D.nx σ (slH H2 a C dx (putS i y vs))
section
variable {X : Cx} {o e value : Expr} {f : Str} {pos pos' : Pos} {ta tv te : TE} {C p : Addr} {i : Nat}
theorem pe_slC (c : SCls X.K C) (s : ∃ p, Slot1 X.K C f p i) (he : PE X e te) (hb : attributeBase e f X.env (eval e X.env) = eval e X.env := by rfl) : PE X (.Attribute e f pos) (tSlC C i te) := by
  refine ⟨fun pins st sg G R J h => attr_of hb (thn (he.run pins st sg G _ J h) fun u s1 ⟨x, G1, J1, rx, a, dx, vs, v, ex, hs, hv, q⟩ => ?_)⟩
  obtain ⟨p, s⟩ := s
  subst ex
  obtain rfl : u = Value.ref a := rx
  exact getslot_ok J1 hs c s hv fun u' s2 J2 ru => ⟨v, G1, J2, ru, q⟩
theorem ps_slC (c : SCls X.K C) (s : ∃ p, Slot1 X.K C f p i) (ha : PE X o ta) (hv : PE X value tv) (hs : swapsWith value (some (.Attribute o f pos')) pos.line X.env = pure false := by rfl) : PS X (.Assign [.Attribute o f pos'] value pos) (sSlC C i ta tv) := by
  refine ⟨fun pins st sg G D J h => ?_⟩
  refine plainObj_wpAny_Assign_Attribute (thn (hv.run pins st sg G _ J h) fun u s1 ⟨y, G1, J1, ry, q⟩ => thn (ha.run pins s1 sg G1 _ J1 q) fun ov s2 ⟨x, G2, J2, rx, a, dx, vs, ex, hsl, q2⟩ => ?_) hs
  obtain ⟨p, s⟩ := s
  subst ex
  obtain rfl : ov = Value.ref a := rx
  exact setslot_ok J2 hsl c s ry fun s3 J3 => ⟨sg, _, J3, q2⟩
end
theorem hu64 {A : Around} {k : Nat} (hr : Room k A) : A.units + 64 < cLine := by have := hr.un; omega
theorem hu100 {A : Around} {k : Nat} (hr : Room k A) : A.units + 100 < cLine := by have := hr.un; omega
theorem ite_dec {c : Prop} [Decidable c] {A B : Prop} (h : c → A) (k : ¬ c → B) : if decide c = true then A else B := by
  by_cases z : c
  · rw [decide_eq_true z, if_pos rfl]; exact h z
  · rw [decide_eq_false z, if_neg Bool.false_ne_true]; exact k z
theorem ite_ndec {c : Prop} [Decidable c] {A B : Prop} (h : ¬ c → A) (k : c → B) : if (!decide c) = true then A else B := by
  by_cases z : c
  · rw [decide_eq_true z]; exact k z |> fun y => by simpa using y
  · rw [decide_eq_false z]; have y := h z; simpa using y
inductive TyY (K : PySem.W.Frag) (H : Hp) : V → Value → Prop where
  | x {v : V} {t : Value} (h : TyX K H v t) : TyY K H v t
  | slt {a C dx : Addr} {vs : List (Option V)} (h : Slt H a C dx vs) (c : SCls K C) (i : SIsi K C) : TyY K H (.ref a) (.ref C)
def rIsiU (K : PySem.W.Frag) : List V → Hp → VK → Prop := fun xs H Q => ∃ (x c : V) (t u : Value) (b : Bool), xs = [x, c] ∧ ClsV c u ∧ TyY K H x t ∧ PySem.W.kitOne K t u = some b ∧ Q (.bl b) H
theorem call_isiU {X : Cx} : CallR X (.builtin "isinstance") (rIsiU X.K) := by
  intro pins st sg G xs us R J r h
  obtain ⟨x, c, t, u, b, rfl, hc, ty, hk, q⟩ := h
  cases ty with
  | x ty => exact call_isi pins st sg G _ us R J r ⟨x, c, t, u, b, rfl, hc, ty, hk, q⟩
  | slt hs c' i => exact call_isiSl u pins st sg G _ us R J r ⟨_, _, _, _, c, b, rfl, by cases hc <;> rfl, fun w rw => hc.eq rw, hs, c', i, hk, q⟩
theorem TyY.looks {X : Cx} {pins : List (Addr × Obj)} {sg : L2.St} {G : Hp} {st : Shared} {v : V} {t u : Value} (J : Inv X pins sg G st) (r : RelV v u) (ty : TyY X.K G v t) : PySem.W.Looks (model X.prog X.w) st.heap (typeOf u) t := by
  cases ty with
  | x ty => obtain ⟨Pk, Z, p, _⟩ := kit_of J r ty; exact Z.ty _ _ J.kIn p
  | slt hs c i => cases (show u = Value.ref _ from r); obtain ⟨_, _, _, ja, _⟩ := slt_inst J hs; exact ja.type
section
variable {X : Cx} {CX : CXT} {C g : Addr} {n : Nat} {sp : Sp} {E : XK}
def rCmpS (K : PySem.W.Frag) (C : Addr) (neg : Bool) (sp : Sp) (E : XK) : R2 := fun x y H Q => ∃ a dx vs t, x = .ref a ∧ Slt H a C dx vs ∧ TyY K H y t ∧ PySem.W.notFirst K C t = true ∧ sp [x, y] H (fun z H' => ∃ c, z = .bl c ∧ Q (.bl (if neg then !c else c)) H') E
theorem op_eqS (h2 : PySem.W.findIn X.K (.ref C) "__eq__" = some (some (.ref g))) (h3 : PySem.W.isFn X.K (.ref g) = true) (F : FnR X.prog X.w X.K X.mg X.base CX n g sp) (hr : Room n X.A) (hx : Passes CX X E) : OpR X (compareOp .Eq) (rCmpS X.K C false sp E) := by
  intro pins st sg HH x y v u Qk J rx ry k
  obtain ⟨a, dx, vs, t, rfl, sa, ty, hn, k⟩ := k
  cases (show v = Value.ref a from rx)
  obtain ⟨_, _, _, ja, _⟩ := slt_inst J sa
  obtain ⟨_, fr⟩ := J.fr
  show wpAny _ _ (richCompare .Eq (.ref a) u) _ _ _
  refine PySem.W.cmp_K (op := .Eq) hr.units0 fr J.ok.mod.kin ja (ty.looks J ry) hn h2 h3 ?_
  refine wpAny_mono (wpAny_call (run_fnR (us := [.ref a, u]) (vs := [.ref a, y]) F hr hx J (.cons rfl (.cons ry .nil)) k)) (fun _ _ ⟨z, H3, J3, rz, c, ez, k3⟩ => ?_) fun _ _ e => e
  subst ez
  exact cmpback rz ⟨_, H3, J3, rz, k3⟩
end
theorem op_eqE {X : Cx} {C : Addr} {k : Nat} {sp : Sp} (G : GE X.prog X.w X.K X.mg X.base C k sp) (hr : Room k X.A) : OpR X (compareOp .Eq) (rCmpS X.K C false sp E0) := by
  obtain ⟨g, h1, h2, h3⟩ := G.ex
  exact op_eqS h1 h2 h3 hr pass0
def Bd (n : Nat) (i : Int) : Prop := i.natAbs < 2 ^ n
theorem Bd.mono {n m : Nat} {i : Int} (h : Bd n i) (l : n ≤ m) : Bd m i := Nat.lt_of_lt_of_le h (Nat.pow_le_pow_right (by decide) l)
theorem Bd.mul {n m : Nat} {i j : Int} (h : Bd n i) (k : Bd m j) : Bd (n + m) (i * j) := wide_lt h k
theorem Bd.add {n m : Nat} {i j : Int} (h : Bd n i) (k : Bd n j) (l : n + 1 = m) : Bd m (i + j) := by
  unfold Bd at *; subst l; rw [Nat.pow_succ]; omega
theorem Bd.sub {n m : Nat} {i j : Int} (h : Bd n i) (k : Bd n j) (l : n + 1 = m) : Bd m (i - j) := by
  unfold Bd at *; subst l; rw [Nat.pow_succ]; omega
theorem Bd.neg {n : Nat} {i : Int} (h : Bd n i) : Bd n (-i) := by unfold Bd at *; omega
theorem Bd.le {n : Nat} {i j : Int} (h : Bd n j) (l : i.natAbs ≤ j.natAbs) : Bd n i := Nat.lt_of_le_of_lt l h
theorem Bd.mulx {n m : Nat} {i j : Int} (h : Bd n i) (k : Bd m j) (l : n + m ≤ 134217728) : CMulX i j := mulx_ok h k l
theorem Bd.dvz {n : Nat} {i j : Int} (h : Bd n j) (h0 : j ≠ 0) (l : n ≤ 9000) : CDvz i j := by
  refine ⟨h0, ?_⟩
  have a : j.natAbs ≠ 0 := by omega
  have b := (Nat.log2_lt a).mpr h
  omega
theorem bd_sm {i : Int} {n : Nat} (h : i.natAbs < 1024) (l : 10 ≤ n) : Bd n i := Nat.lt_of_lt_of_le h (Nat.le_trans (show 1024 ≤ 2 ^ 10 by decide) (Nat.pow_le_pow_right (by decide) l))
structure Nm where
  t : Int
  p : Int
  r : Int
  b : Int
deriving DecidableEq
def gcd3 (t p b : Int) : Int := ((Nat.gcd (Nat.gcd t.natAbs p.natAbs) b.natAbs : Nat) : Int)
def share (t p b : Int) : Int := if 0 < b then gcd3 t p b else -gcd3 t p b
def mkNm (t p r b : Int) : Nm := ⟨t.fdiv (share t p b), p.fdiv (share t p b), if p = 0 then 0 else r, b.fdiv (share t p b)⟩
def b2 (c : Bool) : Int := if c then 1 else 0
def sgn (v : Int) : Int := b2 (decide (0 < v)) - b2 (decide (v < 0))
def sgnSum (t p r : Int) : Int := if p = 0 then sgn t else if 0 ≤ sgn t * sgn p then sgn p else sgn t * sgn (t * t - p * p * r)
def isq (n : Nat) : Nat := if h : n = 0 then 0 else if (2 * isq (n / 4) + 1) * (2 * isq (n / 4) + 1) ≤ n then 2 * isq (n / 4) + 1 else 2 * isq (n / 4)
termination_by n
decreasing_by all_goals omega
theorem isq_ok (n : Nat) : isq n * isq n ≤ n ∧ n < (isq n + 1) * (isq n + 1) := by
  induction n using Nat.strongRecOn with
  | ind n ih =>
    rw [isq]
    split
    · next h => subst h; decide
    · next h =>
      obtain ⟨h1, h2⟩ := ih (n / 4) (by omega)
      generalize isq (n / 4) = q at *
      have e1 : (2 * q) * (2 * q) = 4 * (q * q) := by grind
      have e2 : (2 * q + 1 + 1) * (2 * q + 1 + 1) = 4 * ((q + 1) * (q + 1)) := by grind
      split
      · next h3 => exact ⟨h3, by rw [e2]; omega⟩
      · next h3 => exact ⟨by rw [e1]; omega, by omega⟩
def isRootB (v : Int) : Bool := decide (2 ≤ v) && decide (v ≤ 999) && ((List.range (isq v.toNat - 1)).map fun i : Nat => !decide (v.fmod ((2 + (i : Int)) * (2 + (i : Int))) = 0)).all id
theorem isq_le {n q : Nat} (h : n < (q + 1) * (q + 1)) : isq n ≤ q := by
  have h1 := (isq_ok n).1
  refine Nat.le_of_not_lt fun l => ?_
  have := Nat.mul_le_mul (show q + 1 ≤ isq n from l) (show q + 1 ≤ isq n from l)
  omega
theorem le_isq {n q : Nat} (h : q * q ≤ n) : q ≤ isq n := by
  have h1 := (isq_ok n).2
  refine Nat.le_of_not_lt fun l => ?_
  have := Nat.mul_le_mul (show isq n + 1 ≤ q from l) (show isq n + 1 ≤ q from l)
  omega
theorem newton_ge {a f r : Nat} (hf : 0 < f) (hr : r * r ≤ a) : r ≤ (f + a / f) / 2 := by
  have h1 : a < (a / f + 1) * f := Nat.lt_mul_of_div_lt (Nat.lt_succ_self _) hf
  generalize a / f = q at *
  refine Nat.le_of_not_lt fun l => ?_
  have l2 : f + (q + 1) ≤ 2 * r := by omega
  have l3 := Nat.mul_le_mul l2 l2
  have e : (f + (q + 1)) * (f + (q + 1)) + 0 = (f + (q + 1)) * (f + (q + 1)) := rfl
  rcases Nat.le_total f (q + 1) with c | c
  · obtain ⟨d, hd⟩ := Nat.exists_eq_add_of_le c
    rw [hd] at l3 h1
    have : (f + (f + d)) * (f + (f + d)) = 4 * ((f + d) * f) + d * d := by grind
    have : 2 * r * (2 * r) = 4 * (r * r) := by grind
    omega
  · obtain ⟨d, hd⟩ := Nat.exists_eq_add_of_le c
    rw [hd] at l3 h1
    have : (q + 1 + d + (q + 1)) * (q + 1 + d + (q + 1)) = 4 * ((q + 1) * (q + 1 + d)) + d * d := by grind
    have : 2 * r * (2 * r) = 4 * (r * r) := by grind
    omega
theorem newton_end {a f : Nat} (hf : 0 < f) (h : f ≤ (f + a / f) / 2) : f ≤ isq a := by
  refine le_isq ?_
  have h1 : f ≤ a / f := by omega
  exact Nat.le_trans (Nat.mul_le_mul_right f h1) (Nat.div_mul_le_self a f)
theorem isq_bits (a : Nat) {k : Nat} (h : a < 2 ^ (2 * k)) : isq a ≤ 2 ^ k := by
  refine isq_le (Nat.lt_of_lt_of_le h ?_)
  rw [show 2 * k = k + k by omega, Nat.pow_add]
  exact Nat.mul_le_mul (Nat.le_succ _) (Nat.le_succ _)
theorem sgn_abs (v : Int) : (sgn v).natAbs ≤ 1 := by
  unfold sgn b2
  by_cases h : 0 < v <;> by_cases k : v < 0 <;> simp [h, k] <;> omega
theorem sgn_bd (v : Int) : Bd 10 (sgn v) := bd_sm (by have := sgn_abs v; omega) (by decide)
def cRoot (a b : Nm) : Int := if a.r = 0 then b.r else a.r
def Cm (a b : Nm) : Prop := a.r = 0 ∨ b.r = 0 ∨ a.r = b.r
def addN (a b : Nm) : Nm := mkNm (a.t * b.b + b.t * a.b) (a.p * b.b + b.p * a.b) (cRoot a b) (a.b * b.b)
def subN (a b : Nm) : Nm := mkNm (a.t * b.b - b.t * a.b) (a.p * b.b - b.p * a.b) (cRoot a b) (a.b * b.b)
def mulN (a b : Nm) : Nm := mkNm (a.t * b.t + a.p * b.p * cRoot a b) (a.t * b.p + a.p * b.t) (cRoot a b) (a.b * b.b)
def sizeN (a b : Nm) : Int := b.t * b.t - b.p * b.p * cRoot a b
def overN (a b : Nm) : Nm := mkNm ((a.t * b.t - a.p * b.p * cRoot a b) * b.b) ((a.p * b.t - a.t * b.p) * b.b) (cRoot a b) (sizeN a b * a.b)
structure Gd (k : Nat) (n : Nm) : Prop where
  b0 : n.b ≠ 0
  t : Bd k n.t
  p : Bd k n.p
  b : Bd k n.b
  r : Bd 10 n.r
  r0 : 0 ≤ n.r
theorem cRoot_bd {k : Nat} {a b : Nm} (h : Gd k a) (g : Gd k b) : Bd 10 (cRoot a b) := by
  unfold cRoot; split
  · exact g.r
  · exact h.r
theorem share_ne {t p b : Int} (h : b ≠ 0) : share t p b ≠ 0 := by
  unfold share gcd3
  have : 0 < Nat.gcd (Nat.gcd t.natAbs p.natAbs) b.natAbs := Nat.gcd_pos_of_pos_right _ (by omega)
  split <;> omega
theorem share_bd {t p b : Int} {n : Nat} (h : b ≠ 0) (k : Bd n b) : Bd n (share t p b) := by
  have l : Nat.gcd (Nat.gcd t.natAbs p.natAbs) b.natAbs ≤ b.natAbs := Nat.gcd_le_right _ (by omega)
  unfold Bd share gcd3 at *
  split <;> omega
structure Free (mg : Str → Option Value) : Prop where
  b_abs : mg "abs" = none
  b_all : mg "all" = none
  b_bool : mg "bool" = none
  b_int : mg "int" = none
  b_isinstance : mg "isinstance" = none
  b_len : mg "len" = none
  b_list : mg "list" = none
  b_max : mg "max" = none
  b_min : mg "min" = none
  b_range : mg "range" = none
  b_repr : mg "repr" = none
  b_set : mg "set" = none
  b_str : mg "str" = none
  b_tuple : mg "tuple" = none
def spIsWhole (K : PySem.W.Frag) : Sp := fun vs H Q _ => ∃ x t b, vs = [x] ∧ TyY K H x t ∧ PySem.W.kitOne K t (.type "int") = some b ∧ (b = true → ∃ i, x = .int i) ∧ Q (.bl b) H
def spGcd : Sp := fun vs H Q _ => ∃ a b : Int, vs = [.int a, .int b] ∧ 0 ≤ a ∧ 0 ≤ b ∧ Q (.int ((Nat.gcd a.toNat b.toNat : Nat) : Int)) H
def spRoot : Sp := fun vs H Q _ => ∃ a : Int, vs = [.int a] ∧ 0 ≤ a ∧ Bd 8000 a ∧ Q (.int (isq a.toNat : Int)) H
def spIsRoot : Sp := fun vs H Q _ => ∃ a : Int, vs = [.int a] ∧ ∀ H', Same H H' → Q (.bl (isRootB a)) H'
def spSign : Sp := fun vs H Q _ => ∃ a : Int, vs = [.int a] ∧ Q (.int (sgn a)) H
def spSignSum : Sp := fun vs H Q _ => ∃ t p r : Int, vs = [.int t, .int p, .int r] ∧ Bd 1000000 t ∧ Bd 1000000 p ∧ Bd 10 r ∧ Q (.int (sgnSum t p r)) H
section
variable {P : Program} {w : World} {K : PySem.W.Frag} {mg : Str → Option Value} {base : Heap} {f : Addr} {fd : FuncData}
theorem sc_is_whole : FnScope ["value"] ["value"] (defScope (topS 7)) := ⟨rfl, rfl, rfl, by decide +kernel, rfl, by decide +kernel, by decide +kernel⟩
theorem ok_is_whole (F : Fun K "is_whole" "is_whole" (topS 7) f fd) (fr : Free mg) : FnOk P w K mg base CX0 2 f fd ["value"] (spIsWhole K) := by
  refine F.ok sc_is_whole (fun vs H Q E ⟨_, _, _, e, _⟩ => by rw [e]; rfl) (fun cdv A outer s H vs Q E hr h => ⟨_, (pss_one (ps_ret (pe_and (pe_callB call_isiU (by rfl) fr.b_isinstance (by decide +kernel) (pa_cons (pv 0) (pa_cons (pe_bltn (v := .ty "int") (by rfl) fr.b_int (by decide +kernel) rfl) pa_nil))) (pe_one (pe_not (pe_callB call_isiU (by rfl) fr.b_isinstance (by decide +kernel) (pa_cons (pv 0) (pa_cons (pe_bltn (v := .ty "bool") (by rfl) fr.b_bool (by decide +kernel) rfl) pa_nil)))))))), ?_⟩)
  obtain ⟨x, t, b, rfl, ty, hk, hi, q⟩ := h
  refine ⟨x, rfl, x, .ty "int", t, _, b, rfl, .ty _, ty, hk, b, rfl, ?_⟩
  cases b with
  | false => exact q
  | true =>
    obtain ⟨i, rfl⟩ := hi rfl
    exact ⟨_, rfl, _, .ty "bool", _, _, false, rfl, .ty _, .x (.base (.int i)), kit_ty (by decide +kernel), false, rfl, q⟩
theorem sc_greatest_divisor : FnScope ["one", "other"] ["one", "other"] (defScope (topS 8)) := ⟨rfl, rfl, rfl, by decide +kernel, rfl, by decide +kernel, by decide +kernel⟩
theorem ok_gcd (F : Fun K "greatest_divisor" "greatest_divisor" (topS 8) f fd) : FnOk P w K mg base CX0 2 f fd ["one", "other"] spGcd := by
  refine F.ok sc_greatest_divisor (fun vs H Q E ⟨_, _, e, _⟩ => by rw [e]; rfl) (fun cdv A outer s H vs Q E hr h => ⟨_, (pss_cons (ps_while PassesOwn.never (pt_cmpR op_ne (pv 1) pe_int (nomark _)) (pss_one (ps_par (i := 0) (j := 1) (by rfl) sc_greatest_divisor.nd rfl rfl (by decide) rfl rfl (pa_cons (pv 1) (pa_cons (pe_op op_modN (pv 0) (pv 1)) pa_nil)) (by rfl))))
  (pss_one (ps_ret (pv 0)))), ?_⟩)
  obtain ⟨a, b, rfl, ha, hb, q⟩ := h
  refine ⟨fun m σ H' => ∃ x y : Int, σ = [some (.int x), some (.int y)] ∧ 0 ≤ x ∧ 0 ≤ y ∧ Nat.gcd x.toNat y.toNat = Nat.gcd a.toNat b.toNat ∧ m = y.toNat ∧ H' = H, ⟨_, a, b, rfl, ha, hb, rfl, rfl, rfl⟩, ?_⟩
  rintro m σ H' ⟨x, y, rfl, hx, hy, hg, rfl, rfl⟩
  refine ⟨_, rfl, rfl, _, rfl, ?_⟩
  by_cases c : y = 0
  · subst c
    refine ⟨_, rfl, ?_⟩
    simp only [Int.toNat_zero, Nat.gcd_zero_right] at hg
    rw [show (x : Int) = ((Nat.gcd a.toNat b.toNat : Nat) : Int) by omega]
    exact q
  · rw [decide_eq_false (show ¬ V.int y = V.int 0 from fun e => c (V.int.inj e))]
    refine ⟨fun σ' H'' => σ' = [some (.int y), some (.int (x.fmod y))] ∧ H'' = H', ?_, ?_⟩
    · rintro _ _ ⟨rfl, rfl⟩
      have e : x.fmod y = x % y := Int.fmod_eq_emod_of_nonneg x hy
      have h1 : 0 ≤ x % y := Int.emod_nonneg x c
      have h2 : x % y < y := Int.emod_lt_of_pos x (by omega)
      refine ⟨_, ?_, y, x.fmod y, rfl, hy, by omega, ?_, rfl, rfl⟩
      · rw [e]; omega
      · rw [e, ← hg, show (x % y).toNat = x.toNat % y.toNat from Int.toNat_emod hx hy, Nat.gcd_comm x.toNat y.toNat, Nat.gcd_rec y.toNat x.toNat, Nat.gcd_comm]
    · exact ⟨_, rfl, _, rfl, _, rfl, _, _, rfl, rfl, c, _, _, rfl, rfl, rfl⟩
theorem sc_whole_root : FnScope ["square", "found", "less"] ["square"] (defScope (topS 9)) := ⟨rfl, rfl, rfl, by decide +kernel, rfl, by decide +kernel, by decide +kernel⟩
theorem ok_whole_root (F : Fun K "whole_root" "whole_root" (topS 9) f fd) : FnOk P w K mg base CX0 2 f fd ["square"] spRoot := by
  refine F.ok sc_whole_root (fun vs H Q E ⟨_, e, _⟩ => by rw [e]; rfl) (fun cdv A outer s H vs Q E hr h => ⟨_, (pss_cons (ps_if (pt_cmpR op_eq (pv 0) pe_int (nomark _)) (pss_one (ps_ret pe_int)) pss_nil)
  (pss_cons (ps_set (i := 1) sc_whole_root.nd rfl (by first | exact Or.inl rfl | exact Or.inr rfl) (pe_op op_shlW pe_int (pe_op op_fdivZ (pe_op op_add (pe_bits (pv 0)) pe_int) pe_int)))
  (pss_cons (ps_whileW PassesOwn.never (ptw_cmp op_lt (pew_named (i := 2) sc_whole_root.nd rfl (by first | exact Or.inl rfl | exact Or.inr rfl) (pew_of (pe_op op_fdivZ (pe_op op_add (pv 1) (pe_op op_fdivZ (pv 0) (pv 1))) pe_int))) (pv 1) (nomark _)) (pss_one (ps_set (i := 1) sc_whole_root.nd rfl (by first | exact Or.inl rfl | exact Or.inr rfl) (pv 2))) pss_nil)
  (pss_one (ps_ret (pv 1)))))), ?_⟩)
  obtain ⟨a, rfl, ha, hb, q⟩ := h
  refine ⟨_, rfl, rfl, _, rfl, ite_dec (fun c => ?_) fun c => ?_⟩
  · cases c
    rw [show isq (0 : Int).toNat = 0 by rw [isq]; rfl] at q
    exact q
  replace c : ¬ a = 0 := fun e => c (congrArg V.int e)
  have bits : Builtin.Int.intBits a = a.natAbs.log2 + 1 := by unfold Builtin.Int.intBits; rw [if_neg (by simpa using c)]
  have lt : a.toNat < 2 ^ Builtin.Int.intBits a := by
    rw [bits, show a.toNat = a.natAbs by omega]
    exact (Nat.log2_lt (by omega)).mp (Nat.lt_succ_self _)
  have lb : Builtin.Int.intBits a ≤ 8000 := by
    rw [bits]
    exact (Nat.log2_lt (by omega)).mpr hb
  generalize hn : Builtin.Int.intBits a = n at *
  have hk : ((n : Int) + 1).fdiv 2 = (((n + 1) / 2 : Nat) : Int) := by rw [Int.fdiv_eq_ediv_of_nonneg _ (by decide)]; omega
  obtain ⟨k, ek⟩ : ∃ k, k = (n + 1) / 2 := ⟨_, rfl⟩
  rw [← ek] at hk
  have r0 : isq a.toNat ≤ 2 ^ k := isq_bits _ (Nat.lt_of_lt_of_le lt (Nat.pow_le_pow_right (by decide) (by omega)))
  refine ⟨_, rfl, _, rfl, ?_⟩
  rw [hn]
  refine ⟨_, _, rfl, rfl, _, _, rfl, rfl, ⟨by decide, by decide⟩, ?_⟩
  dsimp only
  rw [hk]
  refine ⟨_, _, rfl, rfl, ⟨by omega, by rw [show Builtin.Int.intBits 1 = 1 by decide]; omega⟩, ?_⟩
  dsimp only
  rw [Int.toNat_natCast, Int.one_mul]
  refine ⟨fun m σ H' => ∃ (g : Nat) (y : Option V), σ = [some (.int a), some (.int (g : Int)), y] ∧ 0 < g ∧ g ≤ 2 ^ k ∧ isq a.toNat ≤ g ∧ g = m ∧ H' = H, ⟨_, 2 ^ k, none, ?_, Nat.two_pow_pos k, Nat.le_refl _, r0, rfl, rfl⟩, ?_⟩
  · rw [show ((2 ^ k : Nat) : Int) = (2 : Int) ^ k by simp]; rfl
  rintro m σ H' ⟨g, y, rfl, hg, hg2, hr0, rfl, rfl⟩
  have bg : Bd 9000 (g : Int) := by
    show (g : Int).natAbs < 2 ^ 9000
    rw [Int.natAbs_natCast]
    exact Nat.lt_of_le_of_lt hg2 (Nat.pow_lt_pow_right (by decide) (by omega))
  have e1 : a.fdiv (g : Int) = ((a.toNat / g : Nat) : Int) := by
    rw [Int.fdiv_eq_ediv_of_nonneg _ (by omega), Int.natCast_ediv, Int.toNat_of_nonneg ha]
  have e2 : ((g : Int) + a.fdiv (g : Int)).fdiv 2 = (((g + a.toNat / g) / 2 : Nat) : Int) := by
    rw [e1, Int.fdiv_eq_ediv_of_nonneg _ (by decide)]; omega
  refine ⟨_, rfl, _, rfl, _, rfl, _, _, rfl, rfl, bg.dvz (by omega) (Nat.le_refl _), _, _, rfl, rfl, _, _, rfl, rfl, ⟨by decide, by decide⟩, ?_⟩
  dsimp only
  rw [e2]
  refine ⟨_, rfl, _, _, rfl, rfl, _, rfl, ?_⟩
  have n1 := newton_ge hg (isq_ok a.toNat).1
  refine ite_dec (fun c2 => ?_) fun c2 => ?_
  · refine ⟨fun σ' H'' => σ' = [some (.int a), some (.int (((g + a.toNat / g) / 2 : Nat) : Int)), some (.int (((g + a.toNat / g) / 2 : Nat) : Int))] ∧ H'' = H', ?_, ?_⟩
    · rintro _ _ ⟨rfl, rfl⟩
      refine ⟨_, (show (g + a.toNat / g) / 2 < g by omega), _, _, rfl, ?_, by omega, n1, rfl, rfl⟩
      refine Nat.lt_of_lt_of_le ?_ n1
      exact Nat.lt_of_lt_of_le Nat.zero_lt_one (le_isq (by omega))
    · exact ⟨_, rfl, rfl, rfl⟩
  · have n2 := newton_end hg (show g ≤ (g + a.toNat / g) / 2 by omega)
    refine ⟨_, rfl, ?_⟩
    rw [show (g : Int) = (isq a.toNat : Int) by omega]
    exact q
theorem sc_sign_of : FnScope ["value"] ["value"] (defScope (topS 16)) := ⟨rfl, rfl, rfl, by decide +kernel, rfl, by decide +kernel, by decide +kernel⟩
theorem ok_sign_of (F : Fun K "sign_of" "sign_of" (topS 16) f fd) (fr : Free mg) : FnOk P w K mg base CX0 2 f fd ["value"] spSign := by
  refine F.ok sc_sign_of (fun vs H Q E ⟨_, e, _⟩ => by rw [e]; rfl) (fun cdv A outer s H vs Q E hr h => ⟨_, (pss_one (ps_ret (pe_op op_sub (pe_callTy call_int1 (by rfl) fr.b_int (by decide +kernel) (pa_cons (pe_cmpR op_gt (pv 0) pe_int (nomark _)) pa_nil)) (pe_callTy call_int1 (by rfl) fr.b_int (by decide +kernel) (pa_cons (pe_cmpR op_lt (pv 0) pe_int (nomark _)) pa_nil))))), ?_⟩)
  obtain ⟨a, rfl, q⟩ := h
  exact ⟨_, rfl, _, _, rfl, rfl, .inr ⟨_, rfl, _, rfl, _, _, rfl, rfl, .inr ⟨_, rfl, _, _, rfl, rfl, q⟩⟩⟩
theorem sc_sign_of_sum : FnScope ["top", "part", "root"] ["top", "part", "root"] (defScope (topS 17)) := ⟨rfl, rfl, rfl, by decide +kernel, rfl, by decide +kernel, by decide +kernel⟩
theorem ok_sign_of_sum (F : Fun K "sign_of_sum" "sign_of_sum" (topS 17) f fd) (G_sign_of : GD P w K mg base "sign_of" 2 spSign) : FnOk P w K mg base CX0 3 f fd ["top", "part", "root"] spSignSum := by
  refine F.ok sc_sign_of_sum (fun vs H Q E ⟨_, _, _, e, _⟩ => by rw [e]; rfl) (fun cdv A outer s H vs Q E hr h => ⟨_, (pss_cons (ps_if (pt_cmpR op_eq (pv 1) pe_int (nomark _)) (pss_one (ps_ret (pe_c1 G_sign_of (hr.mono (by decide)) (pa_cons (pv 0) pa_nil)))) pss_nil)
  (pss_cons (ps_if (pt_cmpR op_ge (pe_op op_mulX (pe_c1 G_sign_of (hr.mono (by decide)) (pa_cons (pv 0) pa_nil)) (pe_c1 G_sign_of (hr.mono (by decide)) (pa_cons (pv 1) pa_nil))) pe_int (nomark _)) (pss_one (ps_ret (pe_c1 G_sign_of (hr.mono (by decide)) (pa_cons (pv 1) pa_nil)))) pss_nil)
  (pss_one (ps_ret (pe_op op_mulX (pe_c1 G_sign_of (hr.mono (by decide)) (pa_cons (pv 0) pa_nil)) (pe_c1 G_sign_of (hr.mono (by decide)) (pa_cons (pe_op op_sub (pe_op op_mulX (pv 0) (pv 0)) (pe_op op_mulX (pe_op op_mulX (pv 1) (pv 1)) (pv 2))) pa_nil))))))), ?_⟩)
  obtain ⟨t, p, r, rfl, ht, hp, hr', q⟩ := h
  unfold sgnSum at q
  refine ⟨_, rfl, rfl, _, rfl, ite_dec (fun c => ?_) fun c => ?_⟩
  · rw [if_pos (V.int.inj c)] at q
    exact ⟨_, rfl, t, rfl, q⟩
  rw [if_neg fun e => c (congrArg V.int e)] at q
  refine ⟨_, rfl, t, rfl, _, rfl, p, rfl, _, _, rfl, rfl, (sgn_bd t).mulx (sgn_bd p) (by decide), _, _, rfl, rfl, _, rfl, ite_dec (fun c => ?_) fun c => ?_⟩
  · rw [if_pos c] at q
    exact ⟨_, rfl, p, rfl, q⟩
  rw [if_neg c] at q
  exact ⟨_, rfl, t, rfl, _, rfl, _, rfl, _, _, rfl, rfl, ht.mulx ht (by decide), _, rfl, _, rfl, _, _, rfl, rfl, hp.mulx hp (by decide), _, rfl, _, _, rfl, rfl, (hp.mul hp).mulx hr' (by decide), _, _, rfl, rfl, _, rfl,
    _, _, rfl, rfl, (sgn_bd t).mulx (sgn_bd _) (by decide), q⟩
theorem sc_is_root : FnScope ["value", "side"] ["value"] (defScope (topS 15)) := ⟨rfl, rfl, rfl, by decide +kernel, rfl, by decide +kernel, by decide +kernel⟩
theorem ok_is_root (F : Fun K "is_root" "is_root" (topS 15) f fd) (fr : Free mg) (g_MAX_ROOT : ∃ tk, mg "MAX_ROOT" = some (.int 999 tk)) (g_LEAST_ROOT : ∃ tk, mg "LEAST_ROOT" = some (.int 2 tk))
    (G_whole_root : GD P w K mg base "whole_root" 2 spRoot) (G_is_whole : GD P w K mg base "is_whole" 2 (spIsWhole K)) : FnOk P w K mg base CX0 3 f fd ["value"] spIsRoot := by
  obtain ⟨tk1, g_MAX_ROOT⟩ := g_MAX_ROOT
  obtain ⟨tk2, g_LEAST_ROOT⟩ := g_LEAST_ROOT
  refine F.ok sc_is_root (fun vs H Q E ⟨_, e, _⟩ => by rw [e]; rfl) (fun cdv A outer s H vs Q E hr h => ⟨_, (pss_cons (ps_if (PW.pt (pw_or (pt_not (pt_val (pe_c1 G_is_whole (hr.mono (by decide)) (pa_cons (pv 0) pa_nil)))) (pw_or1 (pt_not (pt_chain op_le op_le (pe_glob (v := .int 2) rfl g_LEAST_ROOT ⟨_, rfl⟩) (pv 0) (pe_glob (v := .int 999) rfl g_MAX_ROOT ⟨_, rfl⟩)))))) (pss_one (ps_ret pe_bl)) pss_nil)
  (pss_one (ps_ret (pe_callB (cr_all rfl) (by rfl) fr.b_all (by decide +kernel) (pa_cons (pe_lc (own := [("side", 1)]) (by rfl) sc_is_root.nd (pi_range2 (by rfl) fr.b_range (pa_cons pe_int (pa_cons (pe_op op_add (pe_c1 G_whole_root (hr.mono (by decide)) (pa_cons (pv 0) pa_nil)) pe_int) pa_nil))) (blkOk_by (own := [("side", 1)]) (N := ["value", "side"]) (sc := defScope (topS 15)) (by decide +kernel)) (fun _ _ _ _ _ => (pg_name (i := 1) sc_is_root.nd rfl (by first | exact Or.inl rfl | exact Or.inr rfl))) (fun _ _ _ _ _ => pts_nil) (fun _ _ _ _ _ => (pe_cmpR op_ne (pe_op op_modN (pv 0) (pe_op op_mulX (pv 1) (pv 1))) pe_int (nomark _)))) pa_nil))))), ?_⟩)
  obtain ⟨a, rfl, q⟩ := h
  unfold isRootB at q
  refine ⟨_, rfl, .int a, _, true, rfl, .x (.base (.int a)), kit_ty (by decide +kernel), fun _ => ⟨a, rfl⟩, true, rfl, ?_⟩
  have out : ¬ (2 ≤ a ∧ a ≤ 999) → Q (.bl false) H := fun c => by
    replace q := q H (Same.refl H)
    have e : (decide (2 ≤ a) && decide (a ≤ 999)) = false := by
      rw [Bool.and_eq_false_iff, decide_eq_false_iff_not, decide_eq_false_iff_not]; omega
    rw [e, Bool.false_and] at q
    exact q
  refine ⟨_, rfl, _, _, rfl, rfl, _, rfl, ite_dec (fun c => ?_) fun c => ?_⟩
  rotate_left
  · exact ⟨_, rfl, out (fun z => c z.1)⟩
  refine ⟨_, _, rfl, rfl, _, rfl, ?_⟩
  by_cases c2 : a ≤ 999
  rotate_left
  · rw [decide_eq_false c2]
    exact out fun z => c2 z.2
  rw [decide_eq_true c, decide_eq_true c2, Bool.true_and, Bool.true_and] at q
  rw [decide_eq_true c2]
  have rb : (isq a.toNat : Int) ≤ 31 := by
    have := isq_le (n := a.toNat) (q := 31) (by omega)
    omega
  generalize hr2 : isq a.toNat = r at *
  refine ⟨_, rfl, a, rfl, by omega, bd_sm (by omega) (by decide), ?_⟩
  rw [hr2]
  refine ⟨_, _, rfl, rfl, 2, _, rfl, ⟨by decide, by decide, by omega, by omega⟩, fun D hD => ?_⟩
  have en : ((r : Int) + 1 - 2).toNat = r - 1 := by omega
  rw [en]
  refine lc_range (lo := 2) (n := r - 1) (fun i H' => Same H H' ∧ H' D = some (.lst (((List.range i).map fun i : Nat => !decide (a.fmod ((2 + (i : Int)) * (2 + (i : Int))) = 0)).map V.bl))) ⟨?_, upd_same⟩ (fun i H' hi ⟨s1, hl⟩ => ?_) fun H' ⟨s1, hl⟩ => ?_
  · intro b o e
    rw [upd_ne (ne_of_none e hD)]
    exact e
  · refine ⟨rfl, ?_⟩
    have sm : Bd 10 (2 + (i : Int)) := bd_sm (by omega) (by decide)
    have nz : (2 + (i : Int)) * (2 + (i : Int)) ≠ 0 := Int.mul_ne_zero (by omega) (by omega)
    refine ⟨_, rfl, _, rfl, _, rfl, _, _, rfl, rfl, sm.mulx sm (by decide), _, _, rfl, rfl, nz, rfl, _, hl, ?_, ?_, ?_⟩
    · rw [List.length_map, List.length_map, List.length_range, sizeLine_eq]; omega
    · exact fun b o e => by
        rw [upd_ne (ne_of_none e hD)]
        exact s1 b o e
    · rw [upd_same, List.range_succ, List.map_append, List.map_append]
      have e : decide (V.int (a.fmod ((2 + (i : Int)) * (2 + (i : Int)))) = V.int 0) = decide (a.fmod ((2 + (i : Int)) * (2 + (i : Int))) = 0) := by
        by_cases z : a.fmod ((2 + (i : Int)) * (2 + (i : Int))) = 0
        · rw [z]; rfl
        · rw [decide_eq_false z, decide_eq_false fun y => z (V.int.inj y)]
      rw [e]; rfl
  · exact ⟨D, _, rfl, .of hl, q H' s1⟩
structure NTxt (K : PySem.W.Frag) (mg : Str → Option Value) (CN CF : Addr) : Prop where
  gN : mg "Number" = some (.ref CN)
  gF : mg "Form" = some (.ref CF)
  cN : SCls K CN
  cF : SCls K CF
  yN : SIsi K CN
  yF : SIsi K CF
  sN_top : ∃ p, Slot1 K CN "own_top" p 3
  sN_part : ∃ p, Slot1 K CN "own_part" p 1
  sN_root : ∃ p, Slot1 K CN "own_root" p 2
  sN_bottom : ∃ p, Slot1 K CN "own_bottom" p 0
  sF_top : ∃ p, Slot1 K CF "own_top" p 3
  sF_part : ∃ p, Slot1 K CF "own_part" p 1
  sF_root : ∃ p, Slot1 K CF "own_root" p 2
  sF_bottom : ∃ p, Slot1 K CF "own_bottom" p 0
  iNN : PySem.W.kitOne K (.ref CN) (.ref CN) = some true
  iFF : PySem.W.kitOne K (.ref CF) (.ref CF) = some true
  iIF : PySem.W.kitOne K (.type "int") (.ref CF) = some false
  iIN : PySem.W.kitOne K (.type "int") (.ref CN) = some false
  iNI : PySem.W.kitOne K (.ref CN) (.type "int") = some false
def sl4 (n : Nm) : List (Option V) := [some (.int n.b), some (.int n.p), some (.int n.r), some (.int n.t)]
def At4 (C : Addr) (H : Hp) (v : V) (n : Nm) : Prop := ∃ a dx, v = .ref a ∧ Slt H a C dx (sl4 n)
theorem At4.same {C : Addr} {H H' : Hp} {v : V} {n : Nm} (h : At4 C H v n) (s : Same H H') : At4 C H' v n := by
  obtain ⟨a, dx, rfl, h⟩ := h
  refine ⟨a, dx, rfl, ?_⟩
  rcases h with ⟨_, h2⟩ | ⟨h1, h2⟩
  · cases h2
  · exact .inr ⟨s _ _ h1, s _ _ h2⟩
def AtN (C : Addr) (H H' : Hp) (v : V) (n : Nm) : Prop := ∃ a dx, v = .ref a ∧ Slt H' a C dx (sl4 n) ∧ H a = none ∧ H dx = none
theorem AtN.at {C : Addr} {H H' : Hp} {v : V} {n : Nm} (h : AtN C H H' v n) : At4 C H' v n := let ⟨a, dx, e, s, _⟩ := h; ⟨a, dx, e, s⟩
theorem AtN.back {C : Addr} {H0 H H' : Hp} {v : V} {n : Nm} (h : AtN C H H' v n) (s : Same H0 H) : AtN C H0 H' v n :=
  have fr : ∀ {q : Addr}, H q = none → H0 q = none := fun {q} n => by
    cases e : H0 q with
    | none => rfl
    | some o => rw [s _ _ e] at n; cases n
  let ⟨a, dx, e, sl, n1, n2⟩ := h; ⟨a, dx, e, sl, fr n1, fr n2⟩
def okRoot (r p : Int) : Prop := (r = 0 ∧ p = 0) ∨ isRootB r = true
def Arg4 (CF : Addr) (H : Hp) (rest : List V) (n : Nm) : Prop := (∃ v, rest = [v, .int 0, .int 0, .int 1] ∧ At4 CF H v n) ∨ ∃ t p r b, rest = [.int t, .int p, .int r, .int b] ∧ b ≠ 0 ∧ okRoot r p ∧ Bd 9000 b ∧ n = mkNm t p r b
def spFormI (CF : Addr) : Sp := fun vs H Q _ => ∃ (a dx : Addr) (t p r b : Int), vs = [.ref a, .int t, .int p, .int r, .int b] ∧ dx ≠ a ∧ Slt H a CF dx [] ∧ b ≠ 0 ∧ Bd 9000 b ∧ Q .non (slH H a CF dx (sl4 (mkNm t p r b)))
def spFormIn (CF : Addr) : Sp := fun vs H Q _ => ∃ n, Arg4 CF H vs n ∧ ∀ v H', Same H H' → At4 CF H' v n → Q v H'
def spNumI (CN CF : Addr) : Sp := fun vs H Q _ => ∃ (a dx : Addr) (rest : List V) (n : Nm), vs = .ref a :: rest ∧ dx ≠ a ∧ (H a = some (.ins CN dx []) ∧ H dx = some (.own a)) ∧ Arg4 CF H rest n ∧ ∀ H1, Same H H1 → Q .non (slH H1 a CN dx (sl4 n))
section
variable {P : Program} {w : World} {K : PySem.W.Frag} {mg : Str → Option Value} {base : Heap} {f CN CF : Addr} {fd : FuncData}
theorem sc_Form___init__ : FnScope ["self", "top", "part", "root", "bottom", "common", "share"] ["self", "top", "part", "root", "bottom"] (defScope (inClass (topS 19) 1)) := ⟨rfl, rfl, rfl, by decide +kernel, rfl, by decide +kernel, by decide +kernel⟩
theorem ok_form_init (F : Fun K "__init__" "Form.__init__" (inClass (topS 19) 1) f fd) (fr : Free mg) (T : NTxt K mg CN CF) (G_greatest_divisor : GD P w K mg base "greatest_divisor" 2 spGcd) : FnOk P w K mg base CX0 3 f fd ["self", "top", "part", "root", "bottom"] (spFormI CF) := by
  refine F.ok sc_Form___init__ (fun vs H Q E ⟨_, _, _, _, _, _, e, _⟩ => by rw [e]; rfl) (fun cdv A outer s H vs Q E hr h => ⟨_, (pss_cons (ps_set (i := 5) sc_Form___init__.nd rfl (by first | exact Or.inl rfl | exact Or.inr rfl) (pe_c1 G_greatest_divisor (hr.mono (by decide)) (pa_cons (pe_c1 G_greatest_divisor (hr.mono (by decide)) (pa_cons (pe_callB call_abs (by rfl) fr.b_abs (by decide +kernel) (pa_cons (pv 1) pa_nil)) (pa_cons (pe_callB call_abs (by rfl) fr.b_abs (by decide +kernel) (pa_cons (pv 2) pa_nil)) pa_nil))) (pa_cons (pe_callB call_abs (by rfl) fr.b_abs (by decide +kernel) (pa_cons (pv 4) pa_nil)) pa_nil))))
  (pss_cons (ps_set (i := 6) sc_Form___init__.nd rfl (by first | exact Or.inl rfl | exact Or.inr rfl) (pe_ifExp (pt_cmpR op_gt (pv 4) pe_int (nomark _)) (pv 5) (pe_un un_neg (pv 5))))
  (pss_cons (ps_slC T.cF T.sF_top (pv 0) (pe_op op_fdivZ (pv 1) (pv 6)))
  (pss_cons (ps_slC T.cF T.sF_part (pv 0) (pe_op op_fdivZ (pv 2) (pv 6)))
  (pss_cons (ps_slC T.cF T.sF_root (pv 0) (pe_ifExp (pt_cmpR op_eq (pv 2) pe_int (nomark _)) pe_int (pv 3)))
  (pss_one (ps_slC T.cF T.sF_bottom (pv 0) (pe_op op_fdivZ (pv 4) (pv 6))))))))), ?_⟩)
  obtain ⟨a, dx, t, p, r, b, rfl, ne, hs, b0, hb, q⟩ := h
  have key : ∀ sh rr : Int, sh = share t p b → rr = (if p = 0 then 0 else r) → Q .non (slH (slH (slH (slH H a CF dx (putS 3 (.int (t.fdiv sh)) [])) a CF dx (putS 1 (.int (p.fdiv sh)) (putS 3 (.int (t.fdiv sh)) []))) a CF dx
      (putS 2 (.int rr) (putS 1 (.int (p.fdiv sh)) (putS 3 (.int (t.fdiv sh)) [])))) a CF dx (putS 0 (.int (b.fdiv sh)) (putS 2 (.int rr) (putS 1 (.int (p.fdiv sh)) (putS 3 (.int (t.fdiv sh)) []))))) := fun sh rr e1 e2 => by
    rw [slH_twice ne, slH_twice ne, slH_twice ne, e1, e2]; exact q
  have ab : ∀ x : Int, (if x < 0 then -x else x).toNat = x.natAbs := fun x => by split <;> omega
  have nn : ∀ x : Int, 0 ≤ (if x < 0 then -x else x) := fun x => by split <;> omega
  refine ⟨_, rfl, _, rfl, _, rfl, _, rfl, _, _, rfl, nn t, nn p, _, rfl, _, rfl, _, _, rfl, Int.natCast_nonneg _, nn b, ?_⟩
  rw [ab, ab, ab, Int.toNat_natCast]
  have dv : ∀ x sh : Int, sh = share t p b → CDvz x sh := fun x sh e => by rw [e]; exact (share_bd b0 hb).dvz (share_ne b0) (Nat.le_refl _)
  have l1 := fun vs => slH_slt (H := H) (C := CF) (vs := vs) ne
  refine ⟨_, rfl, _, _, rfl, rfl, _, rfl, ite_dec (fun c => ?_) fun c => ?_⟩
  · have e : ((Nat.gcd (Nat.gcd t.natAbs p.natAbs) b.natAbs : Nat) : Int) = share t p b := (if_pos c).symm
    refine ⟨_, rfl, _, rfl, _, rfl, _, _, rfl, rfl, dv _ _ e, _, rfl, a, dx, _, rfl, hs, _, rfl, _, rfl, _, _, rfl, rfl, dv _ _ e, _, rfl, a, dx, _, rfl, slH_slt ne, _, rfl, rfl, _, rfl, ite_dec (fun c2 => ?_) fun c2 => ?_⟩
    · exact ⟨_, rfl, a, dx, _, rfl, slH_slt ne, _, rfl, _, rfl, _, _, rfl, rfl, dv _ _ e, _, rfl, a, dx, _, rfl, slH_slt ne, key _ _ e (if_pos (V.int.inj c2)).symm⟩
    · exact ⟨_, rfl, _, rfl, a, dx, _, rfl, slH_slt ne, _, rfl, _, rfl, _, _, rfl, rfl, dv _ _ e, _, rfl, a, dx, _, rfl, slH_slt ne, key _ _ e (if_neg fun z => c2 (congrArg V.int z)).symm⟩
  · have e : -((Nat.gcd (Nat.gcd t.natAbs p.natAbs) b.natAbs : Nat) : Int) = share t p b := (if_neg c).symm
    refine ⟨_, rfl, _, rfl, _, rfl, _, rfl, _, _, rfl, rfl, dv _ _ e, _, rfl, a, dx, _, rfl, hs, _, rfl, _, rfl, _, _, rfl, rfl, dv _ _ e, _, rfl, a, dx, _, rfl, slH_slt ne, _, rfl, rfl, _, rfl, ite_dec (fun c2 => ?_) fun c2 => ?_⟩
    · exact ⟨_, rfl, a, dx, _, rfl, slH_slt ne, _, rfl, _, rfl, _, _, rfl, rfl, dv _ _ e, _, rfl, a, dx, _, rfl, slH_slt ne, key _ _ e (if_pos (V.int.inj c2)).symm⟩
    · exact ⟨_, rfl, _, rfl, a, dx, _, rfl, slH_slt ne, _, rfl, _, rfl, _, _, rfl, rfl, dv _ _ e, _, rfl, a, dx, _, rfl, slH_slt ne, key _ _ e (if_neg fun z => c2 (congrArg V.int z)).symm⟩
theorem same_made {H : Hp} {x dx C : Addr} {vs : List (Option V)} (nx : H x = none) (nd : H dx = none) : Same H (slH (upd (upd H dx (.own x)) x (.ins C dx [])) x C dx vs) := fun b o e => by
  have h1 : b ≠ x := ne_of_none e nx
  have h2 : b ≠ dx := ne_of_none e nd
  rw [slH_ne h1 h2, upd_ne h1, upd_ne h2]; exact e
theorem same_new {H : Hp} {x dx C : Addr} (nx : H x = none) (nd : H dx = none) : Same H (upd (upd H dx (.own x)) x (.ins C dx [])) := fun b o e => by
  rw [upd_ne (ne_of_none e nx), upd_ne (ne_of_none e nd)]; exact e
theorem form_made {H : Hp} {Q : VK} {t p r b : Int} (b0 : b ≠ 0) (hb : Bd 9000 b) (q : ∀ v H', Same H H' → At4 CF H' v (mkNm t p r b) → Q v H') :
    ∀ x dx, H x = none → H dx = none → dx ≠ x → spFormI CF (.ref x :: [.int t, .int p, .int r, .int b]) (upd (upd H dx (.own x)) x (.ins CF dx [])) (fun v H2 => v = .non ∧ Q (.ref x) H2) E0 := fun x dx nx nd ne =>
  ⟨x, dx, t, p, r, b, rfl, ne, .inl ⟨upd_same, rfl⟩, b0, hb, rfl, q _ _ (same_made nx nd) ⟨x, dx, rfl, slH_slt ne⟩⟩
theorem Arg4.same {H H' : Hp} {vs : List V} {n : Nm} (h : Arg4 CF H vs n) (s : Same H H') : Arg4 CF H' vs n := h.imp (fun ⟨v, e, h⟩ => ⟨v, e, h.same s⟩) id
theorem slH_same {H H1 : Hp} {x dx C C' : Addr} {vs : List (Option V)} (nx : H x = none) (nd : H dx = none) (s : Same (upd (upd H dx (.own x)) x (.ins C dx [])) H1) : Same H (slH H1 x C' dx vs) := fun b o e => by
  have h1 : b ≠ x := ne_of_none e nx
  have h2 : b ≠ dx := ne_of_none e nd
  rw [slH_ne h1 h2]
  exact s _ _ (by rw [upd_ne h1, upd_ne h2]; exact e)
theorem num_made {H : Hp} {Q : VK} {vs : List V} {n : Nm} (h : Arg4 CF H vs n) (q : ∀ v H', Same H H' → AtN CN H H' v n → Q v H') :
    ∀ x dx, H x = none → H dx = none → dx ≠ x → spNumI CN CF (.ref x :: vs) (upd (upd H dx (.own x)) x (.ins CN dx [])) (fun v H2 => v = .non ∧ Q (.ref x) H2) E0 := fun x dx nx nd ne =>
  ⟨x, dx, vs, n, rfl, ne, ⟨upd_same, by rw [upd_ne ne, upd_same]⟩, h.same (same_new nx nd), fun H1 s => ⟨rfl, q _ _ (slH_same nx nd s) ⟨x, dx, rfl, slH_slt ne, nx, nd⟩⟩⟩
theorem At4.ty {H : Hp} {v : V} {n : Nm} {C : Addr} (h : At4 C H v n) (c : SCls K C) (i : SIsi K C) : TyY K H v (.ref C) := by
  obtain ⟨a, dx, rfl, h⟩ := h
  exact .slt h c i
theorem ty_int (H : Hp) (i : Int) : TyY K H (.int i) (.type "int") := .x (.base (.int i))
theorem kit_ii : PySem.W.kitOne K (.type "int") (.type "int") = some true := kit_ty (by decide +kernel)
theorem sc_form_in : FnScope ["top", "part", "root", "bottom"] ["top", "part", "root", "bottom"] (defScope (topS 20)) := ⟨rfl, rfl, rfl, by decide +kernel, rfl, by decide +kernel, by decide +kernel⟩
theorem ok_form_in (F : Fun K "form_in" "form_in" (topS 20) f fd) (fr : Free mg) (T : NTxt K mg CN CF) (G_is_whole : GD P w K mg base "is_whole" 2 (spIsWhole K)) (G_is_root : GD P w K mg base "is_root" 3 spIsRoot)
    (G_Form : GM P w K mg base "Form" CF 3 [] (spFormI CF)) : FnOk P w K mg base CX0 5 f fd ["top", "part", "root", "bottom"] (spFormIn CF) := by
  refine F.ok sc_form_in (fun vs H Q E ⟨_, e, _⟩ => by rcases e with ⟨_, e, _⟩ | ⟨_, _, _, _, e, _⟩ <;> (rw [e]; rfl)) (fun cdv A outer s H vs Q E hr h => ⟨_, (pss_cons (ps_if (pt_val (pe_callB call_isiU (by rfl) fr.b_isinstance (by decide +kernel) (pa_cons (pv 0) (pa_cons (pe_glob (v := .ref CF) rfl T.gF rfl) pa_nil)))) (pss_one (ps_ret (pv 0))) pss_nil)
  (pss_cons (ps_if (PW.pt (pw_or (pt_not (pt_val (pe_c1 G_is_whole (hr.mono (by decide)) (pa_cons (pv 0) pa_nil)))) (pw_or (pt_not (pt_val (pe_c1 G_is_whole (hr.mono (by decide)) (pa_cons (pv 1) pa_nil)))) (pw_or (pt_not (pt_val (pe_c1 G_is_whole (hr.mono (by decide)) (pa_cons (pv 3) pa_nil)))) (pw_or1 (pt_cmpR op_eq (pv 3) pe_int (nomark _))))))) (pss_one ps_never) pss_nil)
  (pss_cons (ps_if (PW.pt (pw_or (pt_not (pt_val (pe_c1 G_is_whole (hr.mono (by decide)) (pa_cons (pv 2) pa_nil)))) (pw_or (PW.pt (pw_and (pt_cmpR op_ne (pv 2) pe_int (nomark _)) (pw_and1 (pt_not (pt_val (pe_c1 G_is_root (hr.mono (by decide)) (pa_cons (pv 2) pa_nil))))))) (pw_or1 (PW.pt (pw_and (pt_cmpR op_eq (pv 2) pe_int (nomark _)) (pw_and1 (pt_cmpR op_ne (pv 1) pe_int (nomark _))))))))) (pss_one ps_never) pss_nil)
  (pss_one (ps_ret (pe_m1 G_Form (hr.mono (by decide)) (pa_cons (pv 0) (pa_cons (pv 1) (pa_cons (pv 2) (pa_cons (pv 3) pa_nil)))))))))), ?_⟩)
  obtain ⟨n, h, q⟩ := h
  rcases h with ⟨v, rfl, h⟩ | ⟨t, p, r, b, rfl, b0, hrt, hb, rfl⟩
  · exact ⟨v, rfl, v, .ref CF, _, _, true, rfl, .own CF, h.ty T.cF T.yF, T.iFF, true, rfl, v, rfl, q v H (Same.refl H) h⟩
  have ex : ∀ i : Int, (true = true → ∃ j, V.int i = V.int j) := fun i _ => ⟨i, rfl⟩
  refine ⟨_, rfl, _, .ref CF, _, _, false, rfl, .own CF, ty_int H t, T.iIF, false, rfl, _, rfl, _, _, true, rfl, ty_int H t, kit_ii, ex t, true, rfl, _, rfl, _, _, true, rfl, ty_int H p, kit_ii, ex p, true, rfl, _, rfl, _, _, true, rfl, ty_int H b, kit_ii, ex b, true, rfl,
    _, rfl, rfl, _, rfl, ite_dec (fun c => absurd (V.int.inj c) b0) fun _ => ?_⟩
  refine ⟨_, rfl, _, _, true, rfl, ty_int H r, kit_ii, ex r, true, rfl, _, rfl, rfl, _, rfl, ?_⟩
  have fin : ∀ H1, Same H H1 → ∀ x dx, H1 x = none → H1 dx = none → dx ≠ x → spFormI CF (.ref x :: [.int t, .int p, .int r, .int b]) (upd (upd H1 dx (.own x)) x (.ins CF dx [])) (fun v H2 => v = .non ∧ Q (.ref x) H2) E0 :=
    fun H1 s1 => form_made b0 hb fun v H' s ha => q v H' (s1.trans s) ha
  rcases hrt with ⟨rfl, rfl⟩ | hrt
  · exact ⟨_, rfl, rfl, _, rfl, _, rfl, rfl, _, rfl, _, rfl, _, rfl, _, rfl, _, rfl, fin H (Same.refl H)⟩
  · have r0 : r ≠ 0 := fun e => by rw [e] at hrt; revert hrt; decide
    refine ite_ndec (fun c => ?_) fun c => absurd (V.int.inj c) r0
    refine ⟨_, rfl, r, rfl, fun H1 s1 => ⟨isRootB r, rfl, ?_⟩⟩
    rw [hrt]
    exact ⟨_, rfl, rfl, _, rfl, ite_dec (fun c => absurd (V.int.inj c) r0) fun _ => ⟨_, rfl, _, rfl, _, rfl, _, rfl, fin H1 s1⟩⟩
theorem sc_Number___init__ : FnScope ["self", "top", "part", "root", "bottom", "form"] ["self", "top", "part", "root", "bottom"] (defScope (inClass (topS 21) 1)) := ⟨rfl, rfl, rfl, by decide +kernel, rfl, by decide +kernel, by decide +kernel⟩
theorem ok_num_init {dvs : List V} {kws : List (Str × V)} (F : FunD K "__init__" "Number.__init__" (defArgs (inClass (topS 21) 1)) (defBody (inClass (topS 21) 1)) (defScope (inClass (topS 21) 1)) dvs kws f fd) (T : NTxt K mg CN CF) (G_form_in : GD P w K mg base "form_in" 5 (spFormIn CF)) :
    FnOk P w K mg base CX0 6 f fd ["self", "top", "part", "root", "bottom"] (spNumI CN CF) := by
  refine F.ok sc_Number___init__ (fun vs H Q E ⟨_, _, rest, n, e, _, _, h, _⟩ => by rw [e]; rcases h with ⟨_, e, _⟩ | ⟨_, _, _, _, e, _⟩ <;> (rw [e]; rfl)) (fun cdv A outer s H vs Q E hr h => ⟨_, ((pss_cons (ps_set (i := 5) sc_Number___init__.nd rfl (by first | exact Or.inl rfl | exact Or.inr rfl) (pe_c1 G_form_in (hr.mono (by decide)) (pa_cons (pv 1) (pa_cons (pv 2) (pa_cons (pv 3) (pa_cons (pv 4) pa_nil))))))
  (pss_cons (ps_slC T.cN T.sN_top (pv 0) (pe_slC T.cF T.sF_top (pv 5)))
  (pss_cons (ps_slC T.cN T.sN_part (pv 0) (pe_slC T.cF T.sF_part (pv 5)))
  (pss_cons (ps_slC T.cN T.sN_root (pv 0) (pe_slC T.cF T.sF_root (pv 5)))
  (pss_one (ps_slC T.cN T.sN_bottom (pv 0) (pe_slC T.cF T.sF_bottom (pv 5)))))))) : PSs (cxOf CX0 P w K mg base ["self", "top", "part", "root", "bottom", "form"] _ _ f cdv A outer s H E).nox _ _).nox, ?_⟩)
  obtain ⟨a, dx, rest, n, rfl, ne, hs, ha, q⟩ := h
  have main : ∀ (σ : L2.St) v H1, Same H H1 → At4 CF H1 v n → σ[0]? = some (some (.ref a)) → σ[5]? = some (some v) →
      tSeq (sSlC CN 3 (tVar 0) (tSlC CF 3 (tVar 5))) (tSeq (sSlC CN 1 (tVar 0) (tSlC CF 1 (tVar 5))) (tSeq (sSlC CN 2 (tVar 0) (tSlC CF 2 (tVar 5))) (sSlC CN 0 (tVar 0) (tSlC CF 0 (tVar 5))))) { nx := fun _ H' => Q .non H', rt := Q } σ H1 := by
    intro σ v H1 s1 h e0 e5
    obtain ⟨b, dy, rfl, hb⟩ := h
    have ka := s1 _ _ hs.1
    have kd := s1 _ _ hs.2
    have hs1 : Slt H1 a CN dx [] := .inl ⟨ka, rfl⟩
    obtain ⟨b1, b2⟩ : H1 b = some (SlO b CF dy (sl4 n)) ∧ H1 dy = some (.xd []) := by
      rcases hb with ⟨_, h2⟩ | h
      · cases h2
      · exact h
    have n1 : b ≠ a := fun z => by rw [z, ka] at b1; unfold SlO at b1; cases b1
    have n2 : b ≠ dx := fun z => by rw [z, kd] at b1; unfold SlO at b1; cases b1
    have n3 : dy ≠ a := fun z => by rw [z, ka] at b2; cases b2
    have n4 : dy ≠ dx := fun z => by rw [z, kd] at b2; cases b2
    have kp : ∀ vs, Slt (slH H1 a CN dx vs) b CF dy (sl4 n) := fun vs => .inr ⟨by rw [slH_ne n1 n2]; exact b1, by rw [slH_ne n3 n4]; exact b2⟩
    have q := q H1 s1
    refine ⟨_, e5, b, dy, _, _, rfl, hb, rfl, _, e0, a, dx, _, rfl, hs1, _, e5, b, dy, _, _, rfl, kp _, rfl, _, e0, a, dx, _, rfl, slH_slt ne, ?_⟩
    rw [slH_twice ne]
    refine ⟨_, e5, b, dy, _, _, rfl, kp _, rfl, _, e0, a, dx, _, rfl, slH_slt ne, ?_⟩
    rw [slH_twice ne]
    refine ⟨_, e5, b, dy, _, _, rfl, kp _, rfl, _, e0, a, dx, _, rfl, slH_slt ne, ?_⟩
    rw [slH_twice ne]
    exact q
  have pre : ∀ v H1, Same H H1 → At4 CF H1 v n → _ := fun v H1 s1 h => main ((start ["self", "top", "part", "root", "bottom", "form"] (.ref a :: rest)).set 5 (some v)) v H1 s1 h
  rcases id ha with ⟨v, rfl, h⟩ | ⟨t, p, r, b, rfl, b0, hrt, hb, rfl⟩
  · exact ⟨_, rfl, _, rfl, _, rfl, _, rfl, n, ha, fun v H' s1 h1 => pre v H' s1 h1 rfl rfl⟩
  · exact ⟨_, rfl, _, rfl, _, rfl, _, rfl, _, ha, fun v H' s1 h1 => pre v H' s1 h1 rfl rfl⟩
end
end
def NI (CN : Addr) (H : Hp) (y : V) (n : Nm) : Prop := At4 CN H y n ∨ ∃ i, y = .int i ∧ n = mkNm i 0 0 1
def spLike (CN : Addr) : Sp := fun vs H Q _ => ∃ x n, vs = [x] ∧ NI CN H x n ∧ Q (.bl true) H
def spNumOf (CN : Addr) : Sp := fun vs H Q _ => ∃ x n, vs = [x] ∧ NI CN H x n ∧ ∀ v H', Same H H' → At4 CN H' v n → (v = x ∨ AtN CN H H' v n) → Q v H'
def spCommon (CN : Addr) : Sp := fun vs H Q _ => ∃ x y a b, vs = [x, y] ∧ At4 CN H x a ∧ At4 CN H y b ∧ Cm a b ∧ Q (.int (cRoot a b)) H
def spBin (CN : Addr) (g : Nm → Nm → Nm) (C : Nm → Nm → Prop) : Sp := fun vs H Q _ => ∃ x y a b, vs = [x, y] ∧ At4 CN H x a ∧ NI CN H y b ∧ Cm a b ∧ Gd 1000 a ∧ Gd 1000 b ∧ C a b ∧ ∀ v H', Same H H' → AtN CN H H' v (g a b) → Q v H'
def cmpN (a b : Nm) : Int := sgnSum (a.t * b.b - b.t * a.b) (a.p * b.b - b.p * a.b) (cRoot a b)
def spCmp (CN : Addr) : Sp := fun vs H Q _ => ∃ x y a b, vs = [x, y] ∧ At4 CN H x a ∧ NI CN H y b ∧ Cm a b ∧ Gd 1000 a ∧ Gd 1000 b ∧ ∀ H', Same H H' → Q (.int (cmpN a b)) H'
def spInt (CN : Addr) (g : Nm → Int) : Sp := fun vs H Q _ => ∃ x a, vs = [x] ∧ At4 CN H x a ∧ Gd 3800 a ∧ Q (.int (g a)) H
def spInt0 (CN : Addr) (g : Nm → Int) : Sp := fun vs H Q _ => ∃ x a, vs = [x] ∧ At4 CN H x a ∧ Q (.int (g a)) H
def spEq (K : PySem.W.Frag) (CN : Addr) : Sp := fun vs H Q _ => ∃ x y a, vs = [x, y] ∧ At4 CN H x a ∧ ((∃ b, At4 CN H y b ∧ Q (.bl (decide (a = b))) H) ∨ ∃ t, TyY K H y t ∧ PySem.W.kitOne K t (.ref CN) = some false ∧ Q (.bl false) H)
section
variable {P : Program} {w : World} {K : PySem.W.Frag} {mg : Str → Option Value} {base : Heap} {f CN CF : Addr} {fd : FuncData}
theorem sc_is_like_number : FnScope ["value"] ["value"] (defScope (topS 22)) := ⟨rfl, rfl, rfl, by decide +kernel, rfl, by decide +kernel, by decide +kernel⟩
theorem ok_is_like (F : Fun K "is_like_number" "is_like_number" (topS 22) f fd) (fr : Free mg) (T : NTxt K mg CN CF) (G_is_whole : GD P w K mg base "is_whole" 2 (spIsWhole K)) : FnOk P w K mg base CX0 3 f fd ["value"] (spLike CN) := by
  refine F.ok sc_is_like_number (fun vs H Q E ⟨_, _, e, _⟩ => by rw [e]; rfl) (fun cdv A outer s H vs Q E hr h => ⟨_, (pss_one (ps_ret (pe_or (pe_callB call_isiU (by rfl) fr.b_isinstance (by decide +kernel) (pa_cons (pv 0) (pa_cons (pe_glob (v := .ref CN) rfl T.gN rfl) pa_nil))) (pe_one (pe_c1 G_is_whole (hr.mono (by decide)) (pa_cons (pv 0) pa_nil)))))), ?_⟩)
  obtain ⟨x, n, rfl, h | ⟨i, rfl, _⟩, q⟩ := h
  · exact ⟨_, rfl, _, .ref CN, _, _, true, rfl, .own CN, h.ty T.cN T.yN, T.iNN, true, rfl, q⟩
  · exact ⟨_, rfl, _, .ref CN, _, _, false, rfl, .own CN, ty_int H i, T.iIN, false, rfl, _, rfl, _, _, true, rfl, ty_int H i, kit_ii, fun _ => ⟨i, rfl⟩, q⟩
theorem sc_number_of : FnScope ["value"] ["value"] (defScope (topS 23)) := ⟨rfl, rfl, rfl, by decide +kernel, rfl, by decide +kernel, by decide +kernel⟩
theorem ok_number_of (F : Fun K "number_of" "number_of" (topS 23) f fd) (fr : Free mg) (T : NTxt K mg CN CF) (G_Form : GM P w K mg base "Form" CF 3 [] (spFormI CF)) (G_Number : GM P w K mg base "Number" CN 6 [.int 0, .int 0, .int 1] (spNumI CN CF)) : FnOk P w K mg base CX0 8 f fd ["value"] (spNumOf CN) := by
  refine F.ok sc_number_of (fun vs H Q E ⟨_, _, e, _⟩ => by rw [e]; rfl) (fun cdv A outer s H vs Q E hr h => ⟨_, (pss_one (ps_ret (pe_ifExp (pt_val (pe_callB call_isiU (by rfl) fr.b_isinstance (by decide +kernel) (pa_cons (pv 0) (pa_cons (pe_glob (v := .ref CN) rfl T.gN rfl) pa_nil)))) (pv 0) (pe_m1 G_Number (hr.mono (by decide)) (pa_cons (pe_m1 G_Form (hr.mono (by decide)) (pa_cons (pv 0) (pa_cons pe_int (pa_cons pe_int (pa_cons pe_int pa_nil))))) pa_nil))))), ?_⟩)
  obtain ⟨x, n, rfl, h | ⟨i, rfl, rfl⟩, q⟩ := h
  · exact ⟨_, rfl, _, .ref CN, _, _, true, rfl, .own CN, h.ty T.cN T.yN, T.iNN, true, rfl, _, rfl, q _ _ (Same.refl H) h (.inl rfl)⟩
  · exact ⟨_, rfl, _, .ref CN, _, _, false, rfl, .own CN, ty_int H i, T.iIN, false, rfl, _, rfl, form_made (by decide) (bd_sm (by decide) (by decide)) fun v H1 s1 hf => num_made (.inl ⟨v, rfl, hf⟩) fun u H2 s2 hn => q u H2 (s1.trans s2) hn.at (.inr (hn.back s1))⟩
theorem sc_required : FnScope ["value"] ["value"] (defScope (topS 24)) := ⟨rfl, rfl, rfl, by decide +kernel, rfl, by decide +kernel, by decide +kernel⟩
theorem ok_required (F : Fun K "required" "required" (topS 24) f fd) (G_is_like_number : GD P w K mg base "is_like_number" 3 (spLike CN)) (G_number_of : GD P w K mg base "number_of" 8 (spNumOf CN)) : FnOk P w K mg base CX0 9 f fd ["value"] (spNumOf CN) := by
  refine F.ok sc_required (fun vs H Q E ⟨_, _, e, _⟩ => by rw [e]; rfl) (fun cdv A outer s H vs Q E hr h => ⟨_, (pss_cons (ps_if (pt_not (pt_val (pe_c1 G_is_like_number (hr.mono (by decide)) (pa_cons (pv 0) pa_nil)))) (pss_one ps_never) pss_nil)
  (pss_one (ps_ret (pe_c1 G_number_of (hr.mono (by decide)) (pa_cons (pv 0) pa_nil))))), ?_⟩)
  obtain ⟨x, n, rfl, h, q⟩ := h
  exact ⟨_, rfl, _, n, rfl, h, true, rfl, _, rfl, _, n, rfl, h, q⟩
theorem sc_common_root : FnScope ["one", "other"] ["one", "other"] (defScope (topS 25)) := ⟨rfl, rfl, rfl, by decide +kernel, rfl, by decide +kernel, by decide +kernel⟩
theorem ok_common_root (F : Fun K "common_root" "common_root" (topS 25) f fd) (T : NTxt K mg CN CF) : FnOk P w K mg base CX0 2 f fd ["one", "other"] (spCommon CN) := by
  refine F.ok sc_common_root (fun vs H Q E ⟨_, _, _, _, e, _⟩ => by rw [e]; rfl) (fun cdv A outer s H vs Q E hr h => ⟨_, (pss_cons (ps_if (PW.pt (pw_and (pt_cmpR op_ne (pe_slC T.cN T.sN_root (pv 0)) pe_int (nomark _)) (pw_and (pt_cmpR op_ne (pe_slC T.cN T.sN_root (pv 1)) pe_int (nomark _)) (pw_and1 (pt_cmpR op_ne (pe_slC T.cN T.sN_root (pv 0)) (pe_slC T.cN T.sN_root (pv 1)) (nomark _)))))) (pss_one ps_never) pss_nil)
  (pss_one (ps_ret (pe_ifExp (pt_cmpR op_ne (pe_slC T.cN T.sN_root (pv 0)) pe_int (nomark _)) (pe_slC T.cN T.sN_root (pv 0)) (pe_slC T.cN T.sN_root (pv 1)))))), ?_⟩)
  obtain ⟨x, y, a, b, rfl, ⟨x, dx, rfl, hx⟩, ⟨y, dy, rfl, hy⟩, cm, q⟩ := h
  unfold cRoot at q
  have fin : (a.r = 0 ∨ b.r = 0 ∨ a.r = b.r) → tRet (tIf (tTest (tOp rNe (tSlC CN 2 (tVar 0)) (tC (.int 0)))) (tSlC CN 2 (tVar 0)) (tSlC CN 2 (tVar 1))) { nx := fun _ H' => Q .non H', rt := Q } (start ["one", "other"] [.ref x, .ref y]) H := fun _ => by
    refine ⟨_, rfl, x, dx, _, _, rfl, hx, rfl, rfl, _, rfl, ite_ndec (fun c => ?_) fun c => ?_⟩
    · rw [if_neg fun e => c (congrArg V.int e)] at q
      exact ⟨_, rfl, x, dx, _, _, rfl, hx, rfl, q⟩
    · rw [if_pos (V.int.inj c)] at q
      exact ⟨_, rfl, y, dy, _, _, rfl, hy, rfl, q⟩
  refine ⟨_, rfl, x, dx, _, _, rfl, hx, rfl, rfl, _, rfl, ite_ndec (fun c => ?_) fun c => fin cm⟩
  refine ⟨_, rfl, y, dy, _, _, rfl, hy, rfl, rfl, _, rfl, ite_ndec (fun c2 => ?_) fun c2 => fin cm⟩
  refine ⟨_, rfl, x, dx, _, _, rfl, hx, rfl, _, rfl, y, dy, _, _, rfl, hy, rfl, rfl, _, rfl, ?_⟩
  have e : a.r = b.r := by
    rcases cm with e | e | e
    · exact absurd (congrArg V.int e) c
    · exact absurd (congrArg V.int e) c2
    · exact e
  rw [e, decide_eq_true rfl]
  exact fin cm
theorem sc_Number___add__ : FnScope ["self", "other", "more", "root", "top", "part"] ["self", "other"] (defScope (inClass (topS 21) 13)) := ⟨rfl, rfl, rfl, by decide +kernel, rfl, by decide +kernel, by decide +kernel⟩
theorem ok_add (F : Fun K "__add__" "Number.__add__" (inClass (topS 21) 13) f fd) (fr : Free mg) (T : NTxt K mg CN CF) (G_is_like_number : GD P w K mg base "is_like_number" 3 (spLike CN)) (G_number_of : GD P w K mg base "number_of" 8 (spNumOf CN))
    (G_common_root : GD P w K mg base "common_root" 2 (spCommon CN)) (G_Form : GM P w K mg base "Form" CF 3 [] (spFormI CF)) (G_Number : GM P w K mg base "Number" CN 6 [.int 0, .int 0, .int 1] (spNumI CN CF)) :
    FnOk P w K mg base CX0 9 f fd ["self", "other"] (spBin CN addN fun _ _ => True) := by
  refine F.ok sc_Number___add__ (fun vs H Q E ⟨_, _, _, _, e, _⟩ => by rw [e]; rfl) (fun cdv A outer s H vs Q E hr h => ⟨_, (pss_cons (ps_if (pt_not (pt_val (pe_c1 G_is_like_number (hr.mono (by decide)) (pa_cons (pv 1) pa_nil)))) (pss_one ps_never) pss_nil)
  (pss_cons (ps_set (i := 2) sc_Number___add__.nd rfl (by first | exact Or.inl rfl | exact Or.inr rfl) (pe_c1 G_number_of (hr.mono (by decide)) (pa_cons (pv 1) pa_nil)))
  (pss_cons (ps_set (i := 3) sc_Number___add__.nd rfl (by first | exact Or.inl rfl | exact Or.inr rfl) (pe_c1 G_common_root (hr.mono (by decide)) (pa_cons (pv 0) (pa_cons (pv 2) pa_nil))))
  (pss_cons (ps_set (i := 4) sc_Number___add__.nd rfl (by first | exact Or.inl rfl | exact Or.inr rfl) (pe_op op_add (pe_op op_mulX (pe_slC T.cN T.sN_top (pv 0)) (pe_slC T.cN T.sN_bottom (pv 2))) (pe_op op_mulX (pe_slC T.cN T.sN_top (pv 2)) (pe_slC T.cN T.sN_bottom (pv 0)))))
  (pss_cons (ps_set (i := 5) sc_Number___add__.nd rfl (by first | exact Or.inl rfl | exact Or.inr rfl) (pe_op op_add (pe_op op_mulX (pe_slC T.cN T.sN_part (pv 0)) (pe_slC T.cN T.sN_bottom (pv 2))) (pe_op op_mulX (pe_slC T.cN T.sN_part (pv 2)) (pe_slC T.cN T.sN_bottom (pv 0)))))
  (pss_one (ps_ret (pe_m1 G_Number (hr.mono (by decide)) (pa_cons (pe_m1 G_Form (hr.mono (by decide)) (pa_cons (pv 4) (pa_cons (pv 5) (pa_cons (pv 3) (pa_cons (pe_op op_mulX (pe_slC T.cN T.sN_bottom (pv 0)) (pe_slC T.cN T.sN_bottom (pv 2))) pa_nil))))) pa_nil))))))))), ?_⟩)
  obtain ⟨x, y, a, b, rfl, ⟨a_self, d_self, rfl, h_self⟩, hy, cm, g_self, g_more, _, q⟩ := h
  refine ⟨_, rfl, y, b, rfl, hy, true, rfl, _, rfl, y, b, rfl, hy, fun v H1 s1 hv _ => ?_⟩
  have hx1 : At4 CN H1 (.ref a_self) a := At4.same ⟨a_self, d_self, rfl, h_self⟩ s1
  have cr := cRoot_bd g_self g_more
  obtain ⟨a_more, d_more, rfl, h_more⟩ := id hv
  refine ⟨_, rfl, _, rfl, .ref a_self, _, a, b, rfl, hx1, hv, cm, ?_⟩
  obtain ⟨_, d_self, e, h_self⟩ := hx1
  cases e
  have bb : a.b * b.b ≠ 0 := Int.mul_ne_zero g_self.b0 g_more.b0
  exact ⟨_, rfl, a_self, d_self, _, _, rfl, h_self, rfl, _, rfl, a_more, d_more, _, _, rfl, h_more, rfl, _, _, rfl, rfl, Bd.mulx g_self.t g_more.b (by decide), _, rfl, a_more, d_more, _, _, rfl, h_more, rfl, _, rfl, a_self, d_self, _, _, rfl, h_self, rfl, _, _, rfl, rfl, Bd.mulx g_more.t g_self.b (by decide), _, _, rfl, rfl, _, rfl, a_self, d_self, _, _, rfl, h_self, rfl, _, rfl, a_more, d_more, _, _, rfl, h_more, rfl, _, _, rfl, rfl, Bd.mulx g_self.p g_more.b (by decide), _, rfl, a_more, d_more, _, _, rfl, h_more, rfl, _, rfl, a_self, d_self, _, _, rfl, h_self, rfl, _, _, rfl, rfl, Bd.mulx g_more.p g_self.b (by decide), _, _, rfl, rfl, _, rfl, _, rfl, _, rfl, _, rfl, a_self, d_self, _, _, rfl, h_self, rfl, _, rfl, a_more, d_more, _, _, rfl, h_more, rfl, _, _, rfl, rfl, Bd.mulx g_self.b g_more.b (by decide),
    form_made bb (Bd.mono (Bd.mul g_self.b g_more.b) (by decide)) fun v H2 s2 hf => num_made (.inl ⟨v, rfl, hf⟩) fun u H3 s3 hn => q u H3 ((s1.trans s2).trans s3) (hn.back (s1.trans s2))⟩
theorem sc_Number___sub__ : FnScope ["self", "other", "less", "root", "top", "part"] ["self", "other"] (defScope (inClass (topS 21) 14)) := ⟨rfl, rfl, rfl, by decide +kernel, rfl, by decide +kernel, by decide +kernel⟩
theorem ok_sub (F : Fun K "__sub__" "Number.__sub__" (inClass (topS 21) 14) f fd) (fr : Free mg) (T : NTxt K mg CN CF) (G_is_like_number : GD P w K mg base "is_like_number" 3 (spLike CN)) (G_number_of : GD P w K mg base "number_of" 8 (spNumOf CN))
    (G_common_root : GD P w K mg base "common_root" 2 (spCommon CN)) (G_Form : GM P w K mg base "Form" CF 3 [] (spFormI CF)) (G_Number : GM P w K mg base "Number" CN 6 [.int 0, .int 0, .int 1] (spNumI CN CF)) :
    FnOk P w K mg base CX0 9 f fd ["self", "other"] (spBin CN subN fun _ _ => True) := by
  refine F.ok sc_Number___sub__ (fun vs H Q E ⟨_, _, _, _, e, _⟩ => by rw [e]; rfl) (fun cdv A outer s H vs Q E hr h => ⟨_, (pss_cons (ps_if (pt_not (pt_val (pe_c1 G_is_like_number (hr.mono (by decide)) (pa_cons (pv 1) pa_nil)))) (pss_one ps_never) pss_nil)
  (pss_cons (ps_set (i := 2) sc_Number___sub__.nd rfl (by first | exact Or.inl rfl | exact Or.inr rfl) (pe_c1 G_number_of (hr.mono (by decide)) (pa_cons (pv 1) pa_nil)))
  (pss_cons (ps_set (i := 3) sc_Number___sub__.nd rfl (by first | exact Or.inl rfl | exact Or.inr rfl) (pe_c1 G_common_root (hr.mono (by decide)) (pa_cons (pv 0) (pa_cons (pv 2) pa_nil))))
  (pss_cons (ps_set (i := 4) sc_Number___sub__.nd rfl (by first | exact Or.inl rfl | exact Or.inr rfl) (pe_op op_sub (pe_op op_mulX (pe_slC T.cN T.sN_top (pv 0)) (pe_slC T.cN T.sN_bottom (pv 2))) (pe_op op_mulX (pe_slC T.cN T.sN_top (pv 2)) (pe_slC T.cN T.sN_bottom (pv 0)))))
  (pss_cons (ps_set (i := 5) sc_Number___sub__.nd rfl (by first | exact Or.inl rfl | exact Or.inr rfl) (pe_op op_sub (pe_op op_mulX (pe_slC T.cN T.sN_part (pv 0)) (pe_slC T.cN T.sN_bottom (pv 2))) (pe_op op_mulX (pe_slC T.cN T.sN_part (pv 2)) (pe_slC T.cN T.sN_bottom (pv 0)))))
  (pss_one (ps_ret (pe_m1 G_Number (hr.mono (by decide)) (pa_cons (pe_m1 G_Form (hr.mono (by decide)) (pa_cons (pv 4) (pa_cons (pv 5) (pa_cons (pv 3) (pa_cons (pe_op op_mulX (pe_slC T.cN T.sN_bottom (pv 0)) (pe_slC T.cN T.sN_bottom (pv 2))) pa_nil))))) pa_nil))))))))), ?_⟩)
  obtain ⟨x, y, a, b, rfl, ⟨a_self, d_self, rfl, h_self⟩, hy, cm, g_self, g_less, _, q⟩ := h
  refine ⟨_, rfl, y, b, rfl, hy, true, rfl, _, rfl, y, b, rfl, hy, fun v H1 s1 hv _ => ?_⟩
  have hx1 : At4 CN H1 (.ref a_self) a := At4.same ⟨a_self, d_self, rfl, h_self⟩ s1
  have cr := cRoot_bd g_self g_less
  obtain ⟨a_less, d_less, rfl, h_less⟩ := id hv
  refine ⟨_, rfl, _, rfl, .ref a_self, _, a, b, rfl, hx1, hv, cm, ?_⟩
  obtain ⟨_, d_self, e, h_self⟩ := hx1
  cases e
  have bb : a.b * b.b ≠ 0 := Int.mul_ne_zero g_self.b0 g_less.b0
  exact ⟨_, rfl, a_self, d_self, _, _, rfl, h_self, rfl, _, rfl, a_less, d_less, _, _, rfl, h_less, rfl, _, _, rfl, rfl, Bd.mulx g_self.t g_less.b (by decide), _, rfl, a_less, d_less, _, _, rfl, h_less, rfl, _, rfl, a_self, d_self, _, _, rfl, h_self, rfl, _, _, rfl, rfl, Bd.mulx g_less.t g_self.b (by decide), _, _, rfl, rfl, _, rfl, a_self, d_self, _, _, rfl, h_self, rfl, _, rfl, a_less, d_less, _, _, rfl, h_less, rfl, _, _, rfl, rfl, Bd.mulx g_self.p g_less.b (by decide), _, rfl, a_less, d_less, _, _, rfl, h_less, rfl, _, rfl, a_self, d_self, _, _, rfl, h_self, rfl, _, _, rfl, rfl, Bd.mulx g_less.p g_self.b (by decide), _, _, rfl, rfl, _, rfl, _, rfl, _, rfl, _, rfl, a_self, d_self, _, _, rfl, h_self, rfl, _, rfl, a_less, d_less, _, _, rfl, h_less, rfl, _, _, rfl, rfl, Bd.mulx g_self.b g_less.b (by decide),
    form_made bb (Bd.mono (Bd.mul g_self.b g_less.b) (by decide)) fun v H2 s2 hf => num_made (.inl ⟨v, rfl, hf⟩) fun u H3 s3 hn => q u H3 ((s1.trans s2).trans s3) (hn.back (s1.trans s2))⟩
theorem sc_Number___mul__ : FnScope ["self", "other", "more", "root", "top", "part"] ["self", "other"] (defScope (inClass (topS 21) 15)) := ⟨rfl, rfl, rfl, by decide +kernel, rfl, by decide +kernel, by decide +kernel⟩
theorem ok_mul (F : Fun K "__mul__" "Number.__mul__" (inClass (topS 21) 15) f fd) (fr : Free mg) (T : NTxt K mg CN CF) (G_is_like_number : GD P w K mg base "is_like_number" 3 (spLike CN)) (G_number_of : GD P w K mg base "number_of" 8 (spNumOf CN))
    (G_common_root : GD P w K mg base "common_root" 2 (spCommon CN)) (G_Form : GM P w K mg base "Form" CF 3 [] (spFormI CF)) (G_Number : GM P w K mg base "Number" CN 6 [.int 0, .int 0, .int 1] (spNumI CN CF)) :
    FnOk P w K mg base CX0 9 f fd ["self", "other"] (spBin CN mulN fun _ _ => True) := by
  refine F.ok sc_Number___mul__ (fun vs H Q E ⟨_, _, _, _, e, _⟩ => by rw [e]; rfl) (fun cdv A outer s H vs Q E hr h => ⟨_, (pss_cons (ps_if (pt_not (pt_val (pe_c1 G_is_like_number (hr.mono (by decide)) (pa_cons (pv 1) pa_nil)))) (pss_one ps_never) pss_nil)
  (pss_cons (ps_set (i := 2) sc_Number___mul__.nd rfl (by first | exact Or.inl rfl | exact Or.inr rfl) (pe_c1 G_number_of (hr.mono (by decide)) (pa_cons (pv 1) pa_nil)))
  (pss_cons (ps_set (i := 3) sc_Number___mul__.nd rfl (by first | exact Or.inl rfl | exact Or.inr rfl) (pe_c1 G_common_root (hr.mono (by decide)) (pa_cons (pv 0) (pa_cons (pv 2) pa_nil))))
  (pss_cons (ps_set (i := 4) sc_Number___mul__.nd rfl (by first | exact Or.inl rfl | exact Or.inr rfl) (pe_op op_add (pe_op op_mulX (pe_slC T.cN T.sN_top (pv 0)) (pe_slC T.cN T.sN_top (pv 2))) (pe_op op_mulX (pe_op op_mulX (pe_slC T.cN T.sN_part (pv 0)) (pe_slC T.cN T.sN_part (pv 2))) (pv 3))))
  (pss_cons (ps_set (i := 5) sc_Number___mul__.nd rfl (by first | exact Or.inl rfl | exact Or.inr rfl) (pe_op op_add (pe_op op_mulX (pe_slC T.cN T.sN_top (pv 0)) (pe_slC T.cN T.sN_part (pv 2))) (pe_op op_mulX (pe_slC T.cN T.sN_part (pv 0)) (pe_slC T.cN T.sN_top (pv 2)))))
  (pss_one (ps_ret (pe_m1 G_Number (hr.mono (by decide)) (pa_cons (pe_m1 G_Form (hr.mono (by decide)) (pa_cons (pv 4) (pa_cons (pv 5) (pa_cons (pv 3) (pa_cons (pe_op op_mulX (pe_slC T.cN T.sN_bottom (pv 0)) (pe_slC T.cN T.sN_bottom (pv 2))) pa_nil))))) pa_nil))))))))), ?_⟩)
  obtain ⟨x, y, a, b, rfl, ⟨a_self, d_self, rfl, h_self⟩, hy, cm, g_self, g_more, _, q⟩ := h
  refine ⟨_, rfl, y, b, rfl, hy, true, rfl, _, rfl, y, b, rfl, hy, fun v H1 s1 hv _ => ?_⟩
  have hx1 : At4 CN H1 (.ref a_self) a := At4.same ⟨a_self, d_self, rfl, h_self⟩ s1
  have cr := cRoot_bd g_self g_more
  obtain ⟨a_more, d_more, rfl, h_more⟩ := id hv
  refine ⟨_, rfl, _, rfl, .ref a_self, _, a, b, rfl, hx1, hv, cm, ?_⟩
  obtain ⟨_, d_self, e, h_self⟩ := hx1
  cases e
  have bb : a.b * b.b ≠ 0 := Int.mul_ne_zero g_self.b0 g_more.b0
  exact ⟨_, rfl, a_self, d_self, _, _, rfl, h_self, rfl, _, rfl, a_more, d_more, _, _, rfl, h_more, rfl, _, _, rfl, rfl, Bd.mulx g_self.t g_more.t (by decide), _, rfl, a_self, d_self, _, _, rfl, h_self, rfl, _, rfl, a_more, d_more, _, _, rfl, h_more, rfl, _, _, rfl, rfl, Bd.mulx g_self.p g_more.p (by decide), _, rfl, _, _, rfl, rfl, Bd.mulx (Bd.mul g_self.p g_more.p) cr (by decide), _, _, rfl, rfl, _, rfl, a_self, d_self, _, _, rfl, h_self, rfl, _, rfl, a_more, d_more, _, _, rfl, h_more, rfl, _, _, rfl, rfl, Bd.mulx g_self.t g_more.p (by decide), _, rfl, a_self, d_self, _, _, rfl, h_self, rfl, _, rfl, a_more, d_more, _, _, rfl, h_more, rfl, _, _, rfl, rfl, Bd.mulx g_self.p g_more.t (by decide), _, _, rfl, rfl, _, rfl, _, rfl, _, rfl, _, rfl, a_self, d_self, _, _, rfl, h_self, rfl, _, rfl, a_more, d_more, _, _, rfl, h_more, rfl, _, _, rfl, rfl, Bd.mulx g_self.b g_more.b (by decide),
    form_made bb (Bd.mono (Bd.mul g_self.b g_more.b) (by decide)) fun v H2 s2 hf => num_made (.inl ⟨v, rfl, hf⟩) fun u H3 s3 hn => q u H3 ((s1.trans s2).trans s3) (hn.back (s1.trans s2))⟩
theorem sc_Number_compared : FnScope ["self", "other", "more", "root", "top"] ["self", "other"] (defScope (inClass (topS 21) 11)) := ⟨rfl, rfl, rfl, by decide +kernel, rfl, by decide +kernel, by decide +kernel⟩
theorem ok_compared (F : Fun K "compared" "Number.compared" (inClass (topS 21) 11) f fd) (fr : Free mg) (T : NTxt K mg CN CF) (G_required : GD P w K mg base "required" 9 (spNumOf CN))
    (G_common_root : GD P w K mg base "common_root" 2 (spCommon CN)) (G_sign_of_sum : GD P w K mg base "sign_of_sum" 3 spSignSum) :
    FnOk P w K mg base CX0 10 f fd ["self", "other"] (spCmp CN) := by
  refine F.ok sc_Number_compared (fun vs H Q E ⟨_, _, _, _, e, _⟩ => by rw [e]; rfl) (fun cdv A outer s H vs Q E hr h => ⟨_, (pss_cons (ps_set (i := 2) sc_Number_compared.nd rfl (by first | exact Or.inl rfl | exact Or.inr rfl) (pe_c1 G_required (hr.mono (by decide)) (pa_cons (pv 1) pa_nil)))
  (pss_cons (ps_set (i := 3) sc_Number_compared.nd rfl (by first | exact Or.inl rfl | exact Or.inr rfl) (pe_c1 G_common_root (hr.mono (by decide)) (pa_cons (pv 0) (pa_cons (pv 2) pa_nil))))
  (pss_cons (ps_set (i := 4) sc_Number_compared.nd rfl (by first | exact Or.inl rfl | exact Or.inr rfl) (pe_op op_sub (pe_op op_mulX (pe_slC T.cN T.sN_top (pv 0)) (pe_slC T.cN T.sN_bottom (pv 2))) (pe_op op_mulX (pe_slC T.cN T.sN_top (pv 2)) (pe_slC T.cN T.sN_bottom (pv 0)))))
  (pss_one (ps_ret (pe_c1 G_sign_of_sum (hr.mono (by decide)) (pa_cons (pv 4) (pa_cons (pe_op op_sub (pe_op op_mulX (pe_slC T.cN T.sN_part (pv 0)) (pe_slC T.cN T.sN_bottom (pv 2))) (pe_op op_mulX (pe_slC T.cN T.sN_part (pv 2)) (pe_slC T.cN T.sN_bottom (pv 0)))) (pa_cons (pv 3) pa_nil))))))))), ?_⟩)
  obtain ⟨x, y, a, b, rfl, ⟨a_self, d_self, rfl, h_self⟩, hy, cm, g_self, g_more, q⟩ := h
  refine ⟨_, rfl, y, b, rfl, hy, fun v H1 s1 hv _ => ?_⟩
  have hx1 : At4 CN H1 (.ref a_self) a := At4.same ⟨a_self, d_self, rfl, h_self⟩ s1
  have cr := cRoot_bd g_self g_more
  obtain ⟨a_more, d_more, rfl, h_more⟩ := id hv
  refine ⟨_, rfl, _, rfl, .ref a_self, _, a, b, rfl, hx1, hv, cm, ?_⟩
  obtain ⟨_, d_self, e, h_self⟩ := hx1
  cases e
  exact ⟨_, rfl, a_self, d_self, _, _, rfl, h_self, rfl, _, rfl, a_more, d_more, _, _, rfl, h_more, rfl, _, _, rfl, rfl, Bd.mulx g_self.t g_more.b (by decide), _, rfl, a_more, d_more, _, _, rfl, h_more, rfl, _, rfl, a_self, d_self, _, _, rfl, h_self, rfl, _, _, rfl, rfl, Bd.mulx g_more.t g_self.b (by decide), _, _, rfl, rfl, _, rfl, _, rfl, a_self, d_self, _, _, rfl, h_self, rfl, _, rfl, a_more, d_more, _, _, rfl, h_more, rfl, _, _, rfl, rfl, Bd.mulx g_self.p g_more.b (by decide), _, rfl, a_more, d_more, _, _, rfl, h_more, rfl, _, rfl, a_self, d_self, _, _, rfl, h_self, rfl, _, _, rfl, rfl, Bd.mulx g_more.p g_self.b (by decide), _, _, rfl, rfl, _, rfl, _, _, _, rfl, Bd.mono (Bd.sub (n := 2000) (m := 2001) (Bd.mono (Bd.mul g_self.t g_more.b) (by decide)) (Bd.mono (Bd.mul g_more.t g_self.b) (by decide)) rfl) (by decide), Bd.mono (Bd.sub (n := 2000) (m := 2001) (Bd.mono (Bd.mul g_self.p g_more.b) (by decide)) (Bd.mono (Bd.mul g_more.p g_self.b) (by decide)) rfl) (by decide), cr, q H1 s1⟩
theorem sc_Number_over : FnScope ["self", "other", "less", "root", "size", "top", "part"] ["self", "other"] (defScope (inClass (topS 21) 12)) := ⟨rfl, rfl, rfl, by decide +kernel, rfl, by decide +kernel, by decide +kernel⟩
theorem ok_over (F : Fun K "over" "Number.over" (inClass (topS 21) 12) f fd) (fr : Free mg) (T : NTxt K mg CN CF) (G_required : GD P w K mg base "required" 9 (spNumOf CN))
    (G_common_root : GD P w K mg base "common_root" 2 (spCommon CN)) (G_Form : GM P w K mg base "Form" CF 3 [] (spFormI CF)) (G_Number : GM P w K mg base "Number" CN 6 [.int 0, .int 0, .int 1] (spNumI CN CF)) :
    FnOk P w K mg base CX0 10 f fd ["self", "other"] (spBin CN overN fun a b => sizeN a b ≠ 0) := by
  refine F.ok sc_Number_over (fun vs H Q E ⟨_, _, _, _, e, _⟩ => by rw [e]; rfl) (fun cdv A outer s H vs Q E hr h => ⟨_, (pss_cons (ps_set (i := 2) sc_Number_over.nd rfl (by first | exact Or.inl rfl | exact Or.inr rfl) (pe_c1 G_required (hr.mono (by decide)) (pa_cons (pv 1) pa_nil)))
  (pss_cons (ps_set (i := 3) sc_Number_over.nd rfl (by first | exact Or.inl rfl | exact Or.inr rfl) (pe_c1 G_common_root (hr.mono (by decide)) (pa_cons (pv 0) (pa_cons (pv 2) pa_nil))))
  (pss_cons (ps_set (i := 4) sc_Number_over.nd rfl (by first | exact Or.inl rfl | exact Or.inr rfl) (pe_op op_sub (pe_op op_mulX (pe_slC T.cN T.sN_top (pv 2)) (pe_slC T.cN T.sN_top (pv 2))) (pe_op op_mulX (pe_op op_mulX (pe_slC T.cN T.sN_part (pv 2)) (pe_slC T.cN T.sN_part (pv 2))) (pv 3))))
  (pss_cons (ps_if (pt_cmpR op_eq (pv 4) pe_int (nomark _)) (pss_one ps_never) pss_nil)
  (pss_cons (ps_set (i := 5) sc_Number_over.nd rfl (by first | exact Or.inl rfl | exact Or.inr rfl) (pe_op op_sub (pe_op op_mulX (pe_slC T.cN T.sN_top (pv 0)) (pe_slC T.cN T.sN_top (pv 2))) (pe_op op_mulX (pe_op op_mulX (pe_slC T.cN T.sN_part (pv 0)) (pe_slC T.cN T.sN_part (pv 2))) (pv 3))))
  (pss_cons (ps_set (i := 6) sc_Number_over.nd rfl (by first | exact Or.inl rfl | exact Or.inr rfl) (pe_op op_sub (pe_op op_mulX (pe_slC T.cN T.sN_part (pv 0)) (pe_slC T.cN T.sN_top (pv 2))) (pe_op op_mulX (pe_slC T.cN T.sN_top (pv 0)) (pe_slC T.cN T.sN_part (pv 2)))))
  (pss_one (ps_ret (pe_m1 G_Number (hr.mono (by decide)) (pa_cons (pe_m1 G_Form (hr.mono (by decide)) (pa_cons (pe_op op_mulX (pv 5) (pe_slC T.cN T.sN_bottom (pv 2))) (pa_cons (pe_op op_mulX (pv 6) (pe_slC T.cN T.sN_bottom (pv 2))) (pa_cons (pv 3) (pa_cons (pe_op op_mulX (pv 4) (pe_slC T.cN T.sN_bottom (pv 0))) pa_nil))))) pa_nil)))))))))), ?_⟩)
  obtain ⟨x, y, a, b, rfl, ⟨a_self, d_self, rfl, h_self⟩, hy, cm, g_self, g_less, sz, q⟩ := h
  refine ⟨_, rfl, y, b, rfl, hy, fun v H1 s1 hv _ => ?_⟩
  have hx1 : At4 CN H1 (.ref a_self) a := At4.same ⟨a_self, d_self, rfl, h_self⟩ s1
  have cr := cRoot_bd g_self g_less
  obtain ⟨a_less, d_less, rfl, h_less⟩ := id hv
  refine ⟨_, rfl, _, rfl, .ref a_self, _, a, b, rfl, hx1, hv, cm, ?_⟩
  obtain ⟨_, d_self, e, h_self⟩ := hx1
  cases e
  refine ⟨_, rfl, a_less, d_less, _, _, rfl, h_less, rfl, _, rfl, a_less, d_less, _, _, rfl, h_less, rfl, _, _, rfl, rfl, Bd.mulx g_less.t g_less.t (by decide), _, rfl, a_less, d_less, _, _, rfl, h_less, rfl, _, rfl, a_less, d_less, _, _, rfl, h_less, rfl, _, _, rfl, rfl, Bd.mulx g_less.p g_less.p (by decide), _, rfl, _, _, rfl, rfl, Bd.mulx (Bd.mul g_less.p g_less.p) cr (by decide), _, _, rfl, rfl, _, rfl, rfl, _, rfl, ite_dec (fun c => absurd (V.int.inj c) sz) fun _ => ?_⟩
  have bs := (Bd.sub (n := 2010) (m := 2011) (Bd.mono (Bd.mul g_less.t g_less.t) (by decide)) (Bd.mono (Bd.mul (Bd.mul g_less.p g_less.p) cr) (by decide)) rfl)
  have bt := (Bd.sub (n := 2010) (m := 2011) (Bd.mono (Bd.mul g_self.t g_less.t) (by decide)) (Bd.mono (Bd.mul (Bd.mul g_self.p g_less.p) cr) (by decide)) rfl)
  have bp := (Bd.sub (n := 2000) (m := 2001) (Bd.mono (Bd.mul g_self.p g_less.t) (by decide)) (Bd.mono (Bd.mul g_self.t g_less.p) (by decide)) rfl)
  exact ⟨_, rfl, a_self, d_self, _, _, rfl, h_self, rfl, _, rfl, a_less, d_less, _, _, rfl, h_less, rfl, _, _, rfl, rfl, Bd.mulx g_self.t g_less.t (by decide), _, rfl, a_self, d_self, _, _, rfl, h_self, rfl, _, rfl, a_less, d_less, _, _, rfl, h_less, rfl, _, _, rfl, rfl, Bd.mulx g_self.p g_less.p (by decide), _, rfl, _, _, rfl, rfl, Bd.mulx (Bd.mul g_self.p g_less.p) cr (by decide), _, _, rfl, rfl, _, rfl, a_self, d_self, _, _, rfl, h_self, rfl, _, rfl, a_less, d_less, _, _, rfl, h_less, rfl, _, _, rfl, rfl, Bd.mulx g_self.p g_less.t (by decide), _, rfl, a_self, d_self, _, _, rfl, h_self, rfl, _, rfl, a_less, d_less, _, _, rfl, h_less, rfl, _, _, rfl, rfl, Bd.mulx g_self.t g_less.p (by decide), _, _, rfl, rfl,
    _, rfl, _, rfl, a_less, d_less, _, _, rfl, h_less, rfl, _, _, rfl, rfl, Bd.mulx bt g_less.b (by decide), _, rfl, _, rfl, a_less, d_less, _, _, rfl, h_less, rfl, _, _, rfl, rfl, Bd.mulx bp g_less.b (by decide), _, rfl, _, rfl, _, rfl, a_self, d_self, _, _, rfl, h_self, rfl, _, _, rfl, rfl, Bd.mulx bs g_self.b (by decide),
    form_made (Int.mul_ne_zero sz g_self.b0) (Bd.mono (Bd.mul bs g_self.b) (by decide)) fun v H2 s2 hf => num_made (.inl ⟨v, rfl, hf⟩) fun u H3 s3 hn => q u H3 ((s1.trans s2).trans s3) (hn.back (s1.trans s2))⟩
theorem sc_Number_sign : FnScope ["self"] ["self"] (defScope (inClass (topS 21) 7)) := ⟨rfl, rfl, rfl, by decide +kernel, rfl, by decide +kernel, by decide +kernel⟩
theorem ok_sign (F : Fun K "sign" "Number.sign" (inClass (topS 21) 7) f fd) (T : NTxt K mg CN CF) (G_sign_of_sum : GD P w K mg base "sign_of_sum" 3 spSignSum) : FnOk P w K mg base CX0 4 f fd ["self"] (spInt CN fun n => sgnSum n.t n.p n.r) := by
  refine F.ok sc_Number_sign (fun vs H Q E ⟨_, _, e, _⟩ => by rw [e]; rfl) (fun cdv A outer s H vs Q E hr h => ⟨_, (pss_one (ps_ret (pe_c1 G_sign_of_sum (hr.mono (by decide)) (pa_cons (pe_slC T.cN T.sN_top (pv 0)) (pa_cons (pe_slC T.cN T.sN_part (pv 0)) (pa_cons (pe_slC T.cN T.sN_root (pv 0)) pa_nil)))))), ?_⟩)
  obtain ⟨x, a, rfl, ⟨a_self, d_self, rfl, h_self⟩, g_self, q⟩ := h
  exact ⟨_, rfl, a_self, d_self, _, _, rfl, h_self, rfl, _, rfl, a_self, d_self, _, _, rfl, h_self, rfl, _, rfl, a_self, d_self, _, _, rfl, h_self, rfl, _, _, _, rfl, g_self.t.mono (by decide), g_self.p.mono (by decide), g_self.r, q⟩
theorem sc_Number_top : FnScope ["self"] ["self"] (defScope (inClass (topS 21) 3)) := ⟨rfl, rfl, rfl, by decide +kernel, rfl, by decide +kernel, by decide +kernel⟩
theorem ok_p_top (F : Fun K "top" "Number.top" (inClass (topS 21) 3) f fd) (T : NTxt K mg CN CF) : FnOk P w K mg base CX0 2 f fd ["self"] (spInt0 CN fun n => n.t) := by
  refine F.ok sc_Number_top (fun vs H Q E ⟨_, _, e, _⟩ => by rw [e]; rfl) (fun cdv A outer s H vs Q E hr h => ⟨_, (pss_one (ps_ret (pe_slC T.cN T.sN_top (pv 0)))), ?_⟩)
  obtain ⟨x, a, rfl, ⟨a_self, d_self, rfl, h_self⟩, q⟩ := h
  exact ⟨_, rfl, a_self, d_self, _, _, rfl, h_self, rfl, q⟩
theorem sc_Number_part : FnScope ["self"] ["self"] (defScope (inClass (topS 21) 4)) := ⟨rfl, rfl, rfl, by decide +kernel, rfl, by decide +kernel, by decide +kernel⟩
theorem ok_p_part (F : Fun K "part" "Number.part" (inClass (topS 21) 4) f fd) (T : NTxt K mg CN CF) : FnOk P w K mg base CX0 2 f fd ["self"] (spInt0 CN fun n => n.p) := by
  refine F.ok sc_Number_part (fun vs H Q E ⟨_, _, e, _⟩ => by rw [e]; rfl) (fun cdv A outer s H vs Q E hr h => ⟨_, (pss_one (ps_ret (pe_slC T.cN T.sN_part (pv 0)))), ?_⟩)
  obtain ⟨x, a, rfl, ⟨a_self, d_self, rfl, h_self⟩, q⟩ := h
  exact ⟨_, rfl, a_self, d_self, _, _, rfl, h_self, rfl, q⟩
theorem sc_Number_root : FnScope ["self"] ["self"] (defScope (inClass (topS 21) 5)) := ⟨rfl, rfl, rfl, by decide +kernel, rfl, by decide +kernel, by decide +kernel⟩
theorem ok_p_root (F : Fun K "root" "Number.root" (inClass (topS 21) 5) f fd) (T : NTxt K mg CN CF) : FnOk P w K mg base CX0 2 f fd ["self"] (spInt0 CN fun n => n.r) := by
  refine F.ok sc_Number_root (fun vs H Q E ⟨_, _, e, _⟩ => by rw [e]; rfl) (fun cdv A outer s H vs Q E hr h => ⟨_, (pss_one (ps_ret (pe_slC T.cN T.sN_root (pv 0)))), ?_⟩)
  obtain ⟨x, a, rfl, ⟨a_self, d_self, rfl, h_self⟩, q⟩ := h
  exact ⟨_, rfl, a_self, d_self, _, _, rfl, h_self, rfl, q⟩
theorem sc_Number_bottom : FnScope ["self"] ["self"] (defScope (inClass (topS 21) 6)) := ⟨rfl, rfl, rfl, by decide +kernel, rfl, by decide +kernel, by decide +kernel⟩
theorem ok_p_bottom (F : Fun K "bottom" "Number.bottom" (inClass (topS 21) 6) f fd) (T : NTxt K mg CN CF) : FnOk P w K mg base CX0 2 f fd ["self"] (spInt0 CN fun n => n.b) := by
  refine F.ok sc_Number_bottom (fun vs H Q E ⟨_, _, e, _⟩ => by rw [e]; rfl) (fun cdv A outer s H vs Q E hr h => ⟨_, (pss_one (ps_ret (pe_slC T.cN T.sN_bottom (pv 0)))), ?_⟩)
  obtain ⟨x, a, rfl, ⟨a_self, d_self, rfl, h_self⟩, q⟩ := h
  exact ⟨_, rfl, a_self, d_self, _, _, rfl, h_self, rfl, q⟩
theorem sc_Number___eq__ : FnScope ["self", "other"] ["self", "other"] (defScope (inClass (topS 21) 17)) := ⟨rfl, rfl, rfl, by decide +kernel, rfl, by decide +kernel, by decide +kernel⟩
theorem ok_eq (F : Fun K "__eq__" "Number.__eq__" (inClass (topS 21) 17) f fd) (fr : Free mg) (T : NTxt K mg CN CF) : FnOk P w K mg base CX0 2 f fd ["self", "other"] (spEq K CN) := by
  refine F.ok sc_Number___eq__ (fun vs H Q E ⟨_, _, _, e, _⟩ => by rw [e]; rfl) (fun cdv A outer s H vs Q E hr h => ⟨_, (pss_cons (ps_if (PW.pt (pw_or (pt_not (pt_val (pe_callB call_isiU (by rfl) fr.b_isinstance (by decide +kernel) (pa_cons (pv 1) (pa_cons (pe_glob (v := .ref CN) rfl T.gN rfl) pa_nil))))) (pw_or (pt_cmpR op_ne (pe_slC T.cN T.sN_top (pv 0)) (pe_slC T.cN T.sN_top (pv 1)) (nomark _)) (pw_or1 (pt_cmpR op_ne (pe_slC T.cN T.sN_part (pv 0)) (pe_slC T.cN T.sN_part (pv 1)) (nomark _)))))) (pss_one (ps_ret pe_bl)) pss_nil)
  (pss_one (ps_ret (pe_and (pe_cmpR op_eq (pe_slC T.cN T.sN_root (pv 0)) (pe_slC T.cN T.sN_root (pv 1)) (nomark _)) (pe_one (pe_cmpR op_eq (pe_slC T.cN T.sN_bottom (pv 0)) (pe_slC T.cN T.sN_bottom (pv 1)) (nomark _))))))), ?_⟩)
  obtain ⟨x, y, a, rfl, ⟨ax, dx, rfl, hx⟩, ⟨b, hy, q⟩ | ⟨t, ty, hk, q⟩⟩ := h
  rotate_left
  · exact ⟨_, rfl, _, .ref CN, t, _, false, rfl, .own CN, ty, hk, false, rfl, q⟩
  refine ⟨_, rfl, _, .ref CN, _, _, true, rfl, .own CN, hy.ty T.cN T.yN, T.iNN, true, rfl, ?_⟩
  obtain ⟨ay, dy, rfl, hy⟩ := hy
  obtain ⟨at_, ap, ar, ab⟩ := a
  obtain ⟨bt, bp, br, bb⟩ := b
  have no : (at_ ≠ bt ∨ ap ≠ bp) → Q (.bl false) H := fun c => by
    rw [decide_eq_false (show ¬ (Nm.mk at_ ap ar ab = Nm.mk bt bp br bb) from fun e => by cases e; rcases c with c | c <;> exact c rfl)] at q
    exact q
  refine ⟨_, rfl, ax, dx, _, _, rfl, hx, rfl, _, rfl, ay, dy, _, _, rfl, hy, rfl, rfl, _, rfl, ite_ndec (fun c => ?_) fun c => ?_⟩
  · exact no (.inl fun e => c (congrArg V.int e))
  refine ⟨_, rfl, ax, dx, _, _, rfl, hx, rfl, _, rfl, ay, dy, _, _, rfl, hy, rfl, rfl, _, rfl, ite_ndec (fun c => ?_) fun c2 => ?_⟩
  · exact no (.inr fun e => c (congrArg V.int e))
  cases c
  cases c2
  refine ⟨_, rfl, ax, dx, _, _, rfl, hx, rfl, _, rfl, ay, dy, _, _, rfl, hy, rfl, rfl, _, rfl, ite_dec (fun c => ?_) fun c => ?_⟩
  · refine ⟨_, rfl, ax, dx, _, _, rfl, hx, rfl, _, rfl, ay, dy, _, _, rfl, hy, rfl, rfl, ?_⟩
    cases c
    rw [show decide (V.int ab = V.int bb) = decide (Nm.mk at_ ap ar ab = Nm.mk at_ ap ar bb) by
      by_cases e : ab = bb
      · subst e; simp
      · rw [decide_eq_false (fun z => e (V.int.inj z)), decide_eq_false (fun z => e (Nm.mk.inj z).2.2.2)]]
    exact q
  · rw [decide_eq_false (show ¬ (Nm.mk at_ ap ar ab = Nm.mk at_ ap br bb) from fun e => c (congrArg V.int (Nm.mk.inj e).2.2.1))] at q
    exact q
end
inductive All2 {α : Type} (f : V → α → Prop) : List V → List α → Prop where
  | nil : All2 f [] []
  | cons {v : V} {n : α} {vs : List V} {ns : List α} (h : f v n) (t : All2 f vs ns) : All2 f (v :: vs) (n :: ns)
section
variable {α : Type} {f g : V → α → Prop} {vs ws : List V} {ns ms : List α} {v : V} {n : α}
theorem All2.append (h : All2 f vs ns) (k : All2 f ws ms) : All2 f (vs ++ ws) (ns ++ ms) := by
  induction h with
  | nil => exact k
  | cons h _ ih => exact .cons h ih
theorem All2.snoc (h : All2 f vs ns) (k : f v n) : All2 f (vs ++ [v]) (ns ++ [n]) := h.append (.cons k .nil)
theorem All2.imp (h : All2 f vs ns) (k : ∀ v n, f v n → g v n) : All2 g vs ns := by
  induction h with
  | nil => exact .nil
  | cons h _ ih => exact .cons (k _ _ h) ih
theorem All2.len (h : All2 f vs ns) : vs.length = ns.length := by
  induction h with
  | nil => rfl
  | cons h _ ih => rw [List.length_cons, List.length_cons, ih]
theorem All2.get (h : All2 f vs ns) {i : Nat} {n : α} (e : ns[i]? = some n) : ∃ v, vs[i]? = some v ∧ f v n := by
  induction h generalizing i with
  | nil => simp at e
  | cons h _ ih => cases i with
    | zero => simp at e; subst e; exact ⟨_, rfl, h⟩
    | succ i => simpa using ih (by simpa using e)
theorem All2.set (h : All2 f vs ns) (i : Nat) (k : f v n) : All2 f (vs.set i v) (ns.set i n) := by
  induction h generalizing i with
  | nil => exact .nil
  | cons h t ih => cases i with
    | zero => exact .cons k t
    | succ i => exact .cons h (ih i)
theorem All2.take (h : All2 f vs ns) (i : Nat) : All2 f (vs.take i) (ns.take i) := by
  induction h generalizing i with
  | nil => simp; exact .nil
  | cons h t ih => cases i with
    | zero => simp; exact .nil
    | succ i => exact .cons h (ih i)
theorem All2.drop (h : All2 f vs ns) (i : Nat) : All2 f (vs.drop i) (ns.drop i) := by
  induction h generalizing i with
  | nil => simp; exact .nil
  | cons h t ih => cases i with
    | zero => exact .cons h t
    | succ i => simpa using ih i
theorem All2.to_map (t : α → V) (k : ∀ v n, f v n → v = t n) (h : All2 f vs ns) : vs = ns.map t := by
  induction h with
  | nil => rfl
  | cons h _ ih => rw [k _ _ h, ih]; rfl
end
def SameB (p : Addr) (H H' : Hp) : Prop := ∀ b o, b ≠ p → H b = some o → H' b = some o
theorem SameB.refl (p : Addr) (H : Hp) : SameB p H H := fun _ _ _ h => h
theorem SameB.trans {p : Addr} {H H1 H2 : Hp} (a : SameB p H H1) (b : SameB p H1 H2) : SameB p H H2 := fun c o n h => b c o n (a c o n h)
theorem Same.b {p : Addr} {H H' : Hp} (a : Same H H') : SameB p H H' := fun b o _ h => a b o h
theorem SameB.upd {p : Addr} {H H' : Hp} {o : HO} (a : SameB p H H') : SameB p H (upd H' p o) := fun b u n h => by rw [upd_ne n]; exact a b u n h
theorem same_upd {H : Hp} {p : Addr} {o : HO} (h : H p = none) : Same H (upd H p o) := fun b u e => by rw [upd_ne (ne_of_none e h)]; exact e
def Dice (p : Addr) (H : Hp) (c : Nat) : Prop := ∃ d0 d1 d2 : Int, H p = some (.lst [.int d0, .int d1, .int d2]) ∧ 0 ≤ d0 ∧ Bd 420 d0 ∧ Bd 200 d1 ∧ 0 ≤ d2 ∧ d2 ≤ c
theorem Dice.same {p : Addr} {H H' : Hp} {c : Nat} (d : Dice p H c) (s : Same H H') : Dice p H' c := by
  obtain ⟨d0, d1, d2, h, r⟩ := d
  exact ⟨d0, d1, d2, s _ _ h, r⟩
theorem Dice.mono {p : Addr} {H : Hp} {c c' : Nat} (d : Dice p H c) (l : c ≤ c') : Dice p H c' := by
  obtain ⟨d0, d1, d2, h, a, b, e, f, g⟩ := d
  exact ⟨d0, d1, d2, h, a, b, e, f, by omega⟩
structure Er where
  cls : Str
  val : PyData
structure M (α : Type) where
  wp : Nat → (α → Nat → Prop) → (Er → Prop) → Prop
  mono : ∀ (c : Nat) {P Q : α → Nat → Prop} {X Y : Er → Prop}, (∀ a d, P a d → Q a d) → (∀ e, X e → Y e) → wp c P X → wp c Q Y
namespace M
variable {α β γ : Type}
def ret (a : α) : M α := ⟨fun c Q _ => Q a c, fun _ _ _ _ _ h _ k => h _ _ k⟩
def bind (m : M α) (f : α → M β) : M β := ⟨fun c Q X => m.wp c (fun a d => (f a).wp d Q X) X, fun c _ _ _ _ h x k => m.mono c (fun a d q => (f a).mono d h x q) x k⟩
def need (p : Prop) (m : M α) : M α := ⟨fun c Q X => p ∧ m.wp c Q X, fun c _ _ _ _ h x k => ⟨k.1, m.mono c h x k.2⟩⟩
def anyOf (P : α → Prop) : M α := ⟨fun c Q _ => ∀ a, P a → Q a c, fun _ _ _ _ _ h _ k a p => h _ _ (k a p)⟩
def the (o : Option α) : M α := ⟨fun c Q _ => ∃ a, o = some a ∧ Q a c, fun _ _ _ _ _ h _ ⟨a, e, k⟩ => ⟨a, e, h _ _ k⟩⟩
def ifb (b : Bool) (m n : M α) : M α := ⟨fun c Q X => if b = true then m.wp c Q X else n.wp c Q X, fun c _ _ _ _ h x k => by
  by_cases e : b = true
  · rw [if_pos e] at k ⊢; exact m.mono c h x k
  · rw [if_neg e] at k ⊢; exact n.mono c h x k⟩
def raise (e : Er) : M α := ⟨fun _ _ X => X e, fun _ _ _ _ _ _ x k => x _ k⟩
def still (m : M α) : M α := ⟨fun c Q X => m.wp 0 (fun a _ => Q a c) X, fun _ _ _ _ _ h x k => m.mono 0 (fun a _ q => h _ _ q) x k⟩
def roll (t : Int) : M Int := ⟨fun c Q _ => c < 2 ^ 60 ∧ 0 < t ∧ Bd 9000 t ∧ ∀ r, 0 ≤ r → r < t → Q r (c + 1), fun c _ _ _ _ h _ k => ⟨k.1, k.2.1, k.2.2.1, fun r a b => h _ _ (k.2.2.2 r a b)⟩⟩
def pick (xs : List α) : M α := ⟨fun c Q _ => c < 2 ^ 60 ∧ 0 < xs.length ∧ xs.length ≤ 1000 ∧ ∀ x ∈ xs, Q x (c + 1), fun c _ _ _ _ h _ k => ⟨k.1, k.2.1, k.2.2.1, fun x a => h _ _ (k.2.2.2 x a)⟩⟩
end M
def lsty : HO → Bool
  | .lst _ => true
  | .dK _ => true
  | .dT _ => true
  | .set _ _ => true
  | _ => false
def NwL (H : Hp) (D : Addr) : Prop := H D = none ∨ ∃ o, H D = some o ∧ lsty o = true
theorem NwL.lst {H : Hp} {D : Addr} {vs : List V} (h : H D = some (.lst vs)) : NwL H D := .inr ⟨_, h, rfl⟩
theorem NwL.dK {H : Hp} {D : Addr} {kvs : List (Key × V)} (h : H D = some (.dK kvs)) : NwL H D := .inr ⟨_, h, rfl⟩
theorem some_ne {H : Hp} {b : Addr} {o : HO} (h : H b = some o) : H b ≠ none := fun z => by rw [h] at z; cases z
def ntB : HO → Bool
  | .tbl _ => false
  | _ => true
def Tb (F H : Hp) (P : Addr) (q : Str) : Prop := F P = none ∧ ∃ ps : Array Value, H P = some (.tbl ps) ∧ TriplesOk ps.toList ∧ ∀ (pos : Pos) (cv : Value), codeAmong pos ps.toList = some cv → ∃ c, cv = .ref c ∧ F c = some (LamX.CodeO c q)
theorem Tb.go {F H F' H' : Hp} {P : Addr} {q : Str} (h : Tb F H P q) (fP : F' P = none) (hP : ∀ o, H P = some o → H' P = some o) (s : Same F F') : Tb F' H' P q := by
  obtain ⟨_, ps, h1, h2, h3⟩ := h
  refine ⟨fP, ps, hP _ h1, h2, fun pos cv hc => ?_⟩
  obtain ⟨c, e, hc⟩ := h3 pos cv hc
  exact ⟨c, e, s _ _ hc⟩
theorem Tb.ne {F H : Hp} {P D : Addr} {q : Str} (h : Tb F H P q) (n : H D = none) : P ≠ D := fun e => by
  obtain ⟨_, ps, h1, _⟩ := h
  rw [e, n] at h1; cases h1
theorem Tb.nd {F H : Hp} {P D : Addr} {q : Str} {o : HO} (h : Tb F H P q) (n : H D = some o) (nt : ntB o = true) : P ≠ D := fun e => by
  obtain ⟨_, ps, h1, _⟩ := h
  rw [e, n] at h1; cases h1; cases nt
def tbN : List (Addr × Str) := [(416, ((Str.ofString "_law_makes") ++ (Str.ofString ".<locals>.") ++ (Str.ofString "<lambda>"))), (430, ((Str.ofString "_law_reckons") ++ (Str.ofString ".<locals>.") ++ (Str.ofString "<lambda>"))), (437, ((Str.ofString "_law_together") ++ (Str.ofString ".<locals>.") ++ (Str.ofString "<lambda>")))]
def TbA (F H : Hp) : Prop := ∀ p ∈ tbN, Tb F H p.1 p.2
structure ExtX (p : Option Addr) (F H F' H' : Hp) : Prop where
  fz : Same F F'
  sub : Same F' H'
  hpn : ∀ b o, p ≠ some b → ntB o = true → H b = some o → H' b = some o
  old : ∀ b, H b ≠ none → F' b = F b
  on : ∀ b, H b ≠ none → H' b ≠ none
  tb : TbA F H → TbA F' H'
theorem ExtX.hp {p : Option Addr} {F H F' H' : Hp} (x : ExtX p F H F' H') (b : Addr) (o : HO) (n : p ≠ some b) (h : H b = some o) (nt : ntB o = true := by rfl) : H' b = some o := x.hpn b o n nt h
theorem ExtX.refl {p : Option Addr} {F H : Hp} (s : Same F H) : ExtX p F H F H := ⟨Same.refl F, s, fun _ _ _ _ h => h, fun _ _ => rfl, fun _ h => h, fun h => h⟩
theorem ExtX.trans {p : Option Addr} {F H F1 H1 F2 H2 : Hp} (a : ExtX p F H F1 H1) (b : ExtX p F1 H1 F2 H2) : ExtX p F H F2 H2 :=
  ⟨a.fz.trans b.fz, b.sub, fun c o n t h => b.hpn c o n t (a.hpn c o n t h), fun c n => (b.old c (a.on c n)).trans (a.old c n), fun c n => b.on c (a.on c n), fun h => b.tb (a.tb h)⟩
theorem ExtX.new {p : Option Addr} {F H : Hp} (s : Same F H) {q : Addr} (n : H q = none) (o : HO) : ExtX p F H (upd F q o) (upd H q o) := by
  have nF : F q = none := s.free n
  refine ⟨same_upd nF, fun b u e => ?_, fun b u _ _ e => same_upd n b u e, fun b h => ?_, fun b nb => ?_, fun ta r hr => (ta r hr).go ((upd_ne ((ta r hr).ne n)).trans (ta r hr).1) (same_upd n r.1) (same_upd nF)⟩
  · by_cases c : b = q
    · subst c; rw [upd_same] at e ⊢; exact e
    · rw [upd_ne c] at e ⊢; exact s _ _ e
  · exact upd_ne fun z => h (by rw [z]; exact n)
  · by_cases c : b = q
    · subst c; rw [upd_same]; simp
    · rw [upd_ne c]; exact nb
theorem ExtX.own {p : Option Addr} {F H : Hp} (s : Same F H) {q : Addr} (n : H q = none) (o : HO) : ExtX p F H F (upd H q o) := by
  refine ⟨Same.refl F, fun b u e => same_upd n _ _ (s _ _ e), fun b u _ _ e => same_upd n b u e, fun b _ => rfl, fun b nb => ?_, fun ta r hr => (ta r hr).go (ta r hr).1 (same_upd n r.1) (Same.refl F)⟩
  by_cases c : b = q
  · subst c; rw [upd_same]; simp
  · rw [upd_ne c]; exact nb
theorem ExtX.same {p : Option Addr} {F H H' : Hp} (s : Same F H) (e : Same H H') : ExtX p F H F H' :=
  ⟨Same.refl F, s.trans e, fun b o _ _ h => e b o h, fun _ _ => rfl, fun b nb => by
    cases q : H b with
    | none => exact absurd q nb
    | some o => rw [e b o q]; simp, fun ta r hr => (ta r hr).go (ta r hr).1 (fun o z => e r.1 o z) (Same.refl F)⟩
structure Cn where
  p : Option Addr
  F0 : Hp
  H0 : Hp
structure Wo (k : Cn) (F H : Hp) (c : Nat) : Prop where
  sub : Same F H
  ext : ExtX k.p k.F0 k.H0 F H
  dice : ∀ a, k.p = some a → F a = none ∧ k.H0 a ≠ none ∧ Dice a H c
theorem Wo.new {k : Cn} {F H : Hp} {c : Nat} (w : Wo k F H c) {q : Addr} (n : H q = none) (o : HO) : Wo k (upd F q o) (upd H q o) c := by
  have x := ExtX.new (p := k.p) w.sub n o
  refine ⟨x.sub, w.ext.trans x, fun a e => ?_⟩
  obtain ⟨h1, h2, h3⟩ := w.dice a e
  have ne : a ≠ q := fun z => by
    subst z
    obtain ⟨_, _, _, h, _⟩ := h3
    rw [h] at n; cases n
  refine ⟨by rw [upd_ne ne]; exact h1, h2, h3.same (same_upd n)⟩
theorem Wo.own {k : Cn} {F H : Hp} {c : Nat} (w : Wo k F H c) {q : Addr} (n : H q = none) (o : HO) : Wo k F (upd H q o) c := by
  have x := ExtX.own (p := k.p) w.sub n o
  refine ⟨x.sub, w.ext.trans x, fun a e => ?_⟩
  obtain ⟨h1, h2, h3⟩ := w.dice a e
  exact ⟨h1, h2, h3.same (same_upd n)⟩
theorem Wo.call {k : Cn} {F H F' H' : Hp} {c : Nat} (w : Wo k F H c) (x : ExtX none F H F' H') : ExtX k.p F H F' H' ∧ Wo k F' H' c := by
  have y : ExtX k.p F H F' H' := ⟨x.fz, x.sub, fun b o _ t h => x.hpn b o (fun z => nomatch z) t h, x.old, x.on, x.tb⟩
  refine ⟨y, x.sub, w.ext.trans y, fun a e => ?_⟩
  obtain ⟨h1, h2, h3⟩ := w.dice a e
  obtain ⟨d0, d1, d2, h, r⟩ := h3
  exact ⟨(x.old a (some_ne h)).trans h1, h2, d0, d1, d2, x.hp a _ (fun z => nomatch z) h, r⟩
structure Rp (α : Type) where
  r : Hp → V → α → Prop
  st : ∀ {F F' : Hp} {v : V} {a : α}, Same F F' → r F v a → r F' v a
def rInt : Rp Int := ⟨fun _ v i => v = .int i, fun _ h => h⟩
def rBl : Rp Bool := ⟨fun _ v b => v = .bl b, fun _ h => h⟩
def rStr : Rp Str := ⟨fun _ v x => v = .str x, fun _ h => h⟩
def rNon : Rp Unit := ⟨fun _ v _ => v = .non, fun _ h => h⟩
def rLst {α : Type} (K : PySem.W.Frag) (R : Rp α) : Rp (List α) :=
  ⟨fun F v xs => ∃ p vs, v = .ref p ∧ SqL K F p vs ∧ All2 (R.r F) vs xs, fun s ⟨p, vs, e, h, t⟩ => ⟨p, vs, e, s.seq h, t.imp fun _ _ g => R.st s g⟩⟩
theorem same_seqT {K : PySem.W.Frag} {H H' : Hp} {a : Addr} {xs : List V} (e : Same H H') (h : SqT K H a xs) : SqT K H' a xs := by
  rcases h with (h | ⟨o, h⟩) | h
  · exact .inl (.inl (e _ _ h))
  · exact .inl (.inr ⟨o, e _ _ h⟩)
  · exact .inr h
def rTup {α : Type} (K : PySem.W.Frag) (R : Rp α) : Rp (List α) :=
  ⟨fun F v xs => ∃ p vs, v = .ref p ∧ SqT K F p vs ∧ All2 (R.r F) vs xs, fun s ⟨p, vs, e, h, t⟩ => ⟨p, vs, e, same_seqT s h, t.imp fun _ _ g => R.st s g⟩⟩
structure RA (α : Type) where
  r : Hp → List V → α → Prop
  st : ∀ {F F' : Hp} {vs : List V} {a : α}, Same F F' → r F vs a → r F' vs a
  n : Nat
  len : ∀ {F : Hp} {vs : List V} {a : α}, r F vs a → vs.length = n
def aNil : RA Unit := ⟨fun _ vs _ => vs = [], fun _ h => h, 0, fun h => by rw [h]; rfl⟩
def aCons {α β : Type} (R : Rp α) (S : RA β) : RA (α × β) :=
  ⟨fun F vs a => ∃ v ws, vs = v :: ws ∧ R.r F v a.1 ∧ S.r F ws a.2, fun s ⟨v, ws, e, h, t⟩ => ⟨v, ws, e, R.st s h, S.st s t⟩, S.n + 1, fun ⟨v, ws, e, h, t⟩ => by rw [e, List.length_cons, S.len t]⟩
def rTx {α : Type} (K : PySem.W.Frag) (S : RA α) : Rp α :=
  ⟨fun F v a => ∃ p vs, v = .ref p ∧ SqT K F p vs ∧ S.r F vs a, fun s ⟨p, vs, e, h, t⟩ => ⟨p, vs, e, same_seqT s h, S.st s t⟩⟩
structure SR (α : Type) where
  r : Option Addr → Hp → Hp → Hp → Option V → α → Prop
  own : Option V → Option Addr
  step : ∀ {p : Option Addr} {H0 F H F' H' : Hp} {o : Option V} {a : α}, ExtX p F H F' H' → r p H0 F H o a → r p H0 F' H' o a
  upd : ∀ {p : Option Addr} {H0 F H : Hp} {o : Option V} {a : α} {D : Addr} {x : HO}, own o ≠ some D → NwL H D → r p H0 F H o a → r p H0 F (L2.upd H D x) o a
  fz : ∀ {p : Option Addr} {H0 F H : Hp} {o : Option V} {a : α} {D : Addr} {x : HO}, Same F (L2.upd F D x) → own o ≠ some D → NwL H D → r p H0 F H o a → r p H0 (L2.upd F D x) H o a
  has : ∀ {p : Option Addr} {H0 F H : Hp} {o : Option V} {a : α} {D : Addr}, r p H0 F H o a → own o = some D → H D ≠ none ∧ F D = none ∧ H0 D = none ∧ p ≠ some D
def sUn : SR Unit := ⟨fun _ _ _ _ _ _ => True, fun _ => none, fun _ h => h, fun _ _ h => h, fun _ _ _ h => h, fun _ e => nomatch e⟩
def sVal {α : Type} (R : Rp α) : SR α :=
  ⟨fun _ _ F _ o a => ∃ v, o = some v ∧ R.r F v a, fun _ => none, fun x ⟨v, e, h⟩ => ⟨v, e, R.st x.fz h⟩, fun _ _ h => h, fun s _ _ ⟨v, e, h⟩ => ⟨v, e, R.st s h⟩, fun _ e => nomatch e⟩
def sDice : SR Unit := ⟨fun p _ _ _ o _ => ∃ a, o = some (.ref a) ∧ p = some a, fun _ => none, fun _ h => h, fun _ _ h => h, fun _ _ _ h => h, fun _ e => nomatch e⟩
structure EV (Γ : Type) where
  r : Option Addr → Hp → Hp → Hp → L2.St → Γ → Prop
  owns : L2.St → List Addr
  step : ∀ {p : Option Addr} {H0 F H F' H' : Hp} {σ : L2.St} {ρ : Γ}, ExtX p F H F' H' → r p H0 F H σ ρ → r p H0 F' H' σ ρ
  upd : ∀ {p : Option Addr} {H0 F H : Hp} {σ : L2.St} {ρ : Γ} {D : Addr} {x : HO}, D ∉ owns σ → NwL H D → r p H0 F H σ ρ → r p H0 F (L2.upd H D x) σ ρ
  fz : ∀ {p : Option Addr} {H0 F H : Hp} {σ : L2.St} {ρ : Γ} {D : Addr} {x : HO}, Same F (L2.upd F D x) → D ∉ owns σ → NwL H D → r p H0 F H σ ρ → r p H0 (L2.upd F D x) H σ ρ
  has : ∀ {p : Option Addr} {H0 F H : Hp} {σ : L2.St} {ρ : Γ} {D : Addr}, r p H0 F H σ ρ → D ∈ owns σ → H D ≠ none ∧ F D = none ∧ H0 D = none ∧ p ≠ some D
def eNil : EV Unit := ⟨fun _ _ _ _ σ _ => σ = [], fun _ => [], fun _ h => h, fun _ _ h => h, fun _ _ _ h => h, fun _ h => nomatch h⟩
def eCons {α Γ : Type} (S : SR α) (E : EV Γ) : EV (α × Γ) where
  r := fun p H0 F H σ ρ => ∃ o τ, σ = o :: τ ∧ S.r p H0 F H o ρ.1 ∧ E.r p H0 F H τ ρ.2
  owns := fun σ => match σ with
    | [] => []
    | o :: τ => (S.own o).toList ++ E.owns τ
  step := fun x ⟨o, τ, e, h, t⟩ => ⟨o, τ, e, S.step x h, E.step x t⟩
  upd := fun c w ⟨o, τ, e, h, t⟩ => ⟨o, τ, e, S.upd (fun z => c (by rw [e]; exact List.mem_append_left _ (by rw [z]; simp))) w h, E.upd (fun z => c (by rw [e]; exact List.mem_append_right _ z)) w t⟩
  fz := fun s c w ⟨o, τ, e, h, t⟩ => ⟨o, τ, e, S.fz s (fun z => c (by rw [e]; exact List.mem_append_left _ (by rw [z]; simp))) w h, E.fz s (fun z => c (by rw [e]; exact List.mem_append_right _ z)) w t⟩
  has := fun ⟨o, τ, e, h, t⟩ c => by
    subst e
    rcases List.mem_append.mp c with c | c
    · exact S.has h (by cases q : S.own o with
        | none => rw [q] at c; simp at c
        | some x => rw [q] at c; simp at c; rw [c])
    · exact E.has t c
structure EI {Γ : Type} (k : Cn) (E : EV Γ) (F H : Hp) (σ : L2.St) (ρ : Γ) : Prop where
  r : E.r k.p k.H0 F H σ ρ
  nd : (E.owns σ).Nodup
theorem EI.step {Γ : Type} {k : Cn} {E : EV Γ} {F H F' H' : Hp} {σ : L2.St} {ρ : Γ} (e : EI k E F H σ ρ) (x : ExtX k.p F H F' H') : EI k E F' H' σ ρ := ⟨E.step x e.r, e.nd⟩
structure GetS {Γ α : Type} (E : EV Γ) (i : Nat) (S : SR α) (g : Γ → α) : Prop where
  get : ∀ {p : Option Addr} {H0 F H : Hp} {σ : L2.St} {ρ : Γ}, E.r p H0 F H σ ρ → ∃ o, σ[i]? = some o ∧ S.r p H0 F H o (g ρ)
theorem get0 {Γ α : Type} {S : SR α} {E : EV Γ} : GetS (eCons S E) 0 S (·.1) := ⟨fun ⟨o, τ, e, h, _⟩ => ⟨o, by rw [e]; rfl, h⟩⟩
theorem getS {Γ α β : Type} {S : SR α} {T : SR β} {E : EV Γ} {i : Nat} {g : Γ → α} (h : GetS E i S g) : GetS (eCons T E) (i + 1) S (fun ρ => g ρ.2) :=
  ⟨fun ⟨o, τ, e, _, t⟩ => by obtain ⟨o', q, r⟩ := h.get t; exact ⟨o', by rw [e]; simpa using q, r⟩⟩
structure PutS {Γ Γ' β : Type} (E : EV Γ) (i : Nat) (S' : SR β) (E' : EV Γ') (put : Γ → β → Γ') : Prop where
  put : ∀ {p : Option Addr} {H0 F H : Hp} {σ : L2.St} {ρ : Γ} {o : Option V} {b : β}, E.r p H0 F H σ ρ → S'.r p H0 F H o b → E'.r p H0 F H (σ.set i o) (put ρ b)
  sub : ∀ {σ : L2.St} {o : Option V} {x : Addr}, x ∈ E'.owns (σ.set i o) → x ∈ E.owns σ ∨ S'.own o = some x
  nd : ∀ {σ : L2.St} {o : Option V}, (E.owns σ).Nodup → (∀ D, S'.own o = some D → D ∉ E.owns σ) → (E'.owns (σ.set i o)).Nodup
theorem put0 {Γ α β : Type} {S : SR α} {S' : SR β} {E : EV Γ} : PutS (eCons S E) 0 S' (eCons S' E) (fun ρ b => (b, ρ.2)) where
  put := fun ⟨o, τ, e, _, t⟩ h => ⟨_, τ, by rw [e]; rfl, h, t⟩
  sub := fun {σ o x} h => by
    cases σ with
    | nil => exact .inl h
    | cons y τ =>
      rcases List.mem_append.mp h with h | h
      · exact .inr (by cases q : S'.own o with
          | none => rw [q] at h; simp at h
          | some x => rw [q] at h; simp at h; rw [h])
      · exact .inl (List.mem_append_right _ h)
  nd := fun {σ o} n a => by
    cases σ with
    | nil => exact n
    | cons y τ =>
      have n2 : (E.owns τ).Nodup := (List.nodup_append.mp n).2.1
      show ((S'.own o).toList ++ E.owns τ).Nodup
      cases q : S'.own o with
      | none => simpa using n2
      | some x => simpa using ⟨fun z => a x q (List.mem_append_right _ z), n2⟩
theorem putS {Γ Γ' α β : Type} {S' : SR β} {T : SR α} {E : EV Γ} {E' : EV Γ'} {i : Nat} {put : Γ → β → Γ'} (h : PutS E i S' E' put) : PutS (eCons T E) (i + 1) S' (eCons T E') (fun ρ b => (ρ.1, put ρ.2 b)) where
  put := fun ⟨o, τ, e, q, t⟩ s => ⟨o, τ.set i _, by rw [e]; rfl, q, h.put t s⟩
  sub := fun {σ o x} z => by
    cases σ with
    | nil => exact .inl z
    | cons y τ =>
      rcases List.mem_append.mp z with z | z
      · exact .inl (List.mem_append_left _ z)
      · exact (h.sub z).imp (List.mem_append_right _) id
  nd := fun {σ o} n a => by
    cases σ with
    | nil => exact n
    | cons y τ =>
      obtain ⟨n1, n2, n3⟩ := List.nodup_append.mp n
      refine List.nodup_append.mpr ⟨n1, h.nd n2 fun D e z => a D e (List.mem_append_right _ z), fun x hx y' hy z => ?_⟩
      subst z
      rcases h.sub hy with hy | hy
      · exact n3 x hx x hy rfl
      · exact a x hy (List.mem_append_left _ hx)
structure ModS {Γ α : Type} (E : EV Γ) (i : Nat) (R : Rp α) (g : Γ → List α) (put : Γ → List α → Γ) : Prop where
  get : ∀ {p : Option Addr} {H0 F H : Hp} {σ : L2.St} {ρ : Γ}, E.r p H0 F H σ ρ → ∃ D vs, σ[i]? = some (some (.ref D)) ∧ H D = some (.lst vs) ∧ All2 (R.r F) vs (g ρ) ∧ D ∈ E.owns σ
  mod : ∀ {p : Option Addr} {H0 F H : Hp} {σ : L2.St} {ρ : Γ} {D : Addr} {vs : List V} {xs : List α}, E.r p H0 F H σ ρ → (E.owns σ).Nodup → σ[i]? = some (some (.ref D)) → All2 (R.r F) vs xs → E.r p H0 F (upd H D (.lst vs)) σ (put ρ xs)
structure Md where
  Z : Hp → Er → Value → Option Addr → Prop
  XE : XK
def md0 : Md := ⟨fun _ _ _ _ => True, fun _ _ _ => False⟩
def VP {α : Type} (k : Cn) (F H : Hp) (R : Rp α) (Q : VK) : α → Nat → Prop := fun a c' => ∀ v F' H', ExtX k.p F H F' H' → Wo k F' H' c' → R.r F' v a → Q v H'
def VN {α : Type} (k : Cn) (F H : Hp) (R : Rp α) (Q : VK) : List α → Nat → Prop := fun xs c' => ∀ D vs F' H', ExtX k.p F H F' H' → Wo k F' H' c' → H D = none → k.H0 D = none → H' D = some (.lst vs) → F' D = none → All2 (R.r F') vs xs → Q (.ref D) H'
def XP (μ : Md) (k : Cn) : Er → Prop := fun e => ∀ cls d F' H', ExtX k.p k.F0 k.H0 F' H' → μ.Z F' e cls d → μ.XE cls d H'
def AP {α : Type} (k : Cn) (F H : Hp) (S : RA α) (Q : List V → Hp → Prop) : α → Nat → Prop := fun a c' => ∀ vs F' H', ExtX k.p F H F' H' → Wo k F' H' c' → S.r F' vs a → Q vs H'
def BP (k : Cn) (F H : Hp) (Q : Bool → Hp → Prop) : Bool → Nat → Prop := fun b c' => ∀ F' H', ExtX k.p F H F' H' → Wo k F' H' c' → Q b H'
def Walks {α : Type} (J : It) (F1 : Hp) (R : Rp α) (xs : List α) : Prop := ∀ (i : Nat) (F' H' : Hp), Same F1 F' → Same F' H' →
  (∀ a, xs[i]? = some a → J.go i H' ∧ ∀ x H'', J.yld i H' x H'' → ∃ F'', ExtX none F' H' F'' H'' ∧ R.r F'' x a) ∧ (xs.length ≤ i → J.stop i H')
def IP {α : Type} (k : Cn) (F H : Hp) (R : Rp α) (W : It → Hp → Prop) : List α → Nat → Prop := fun xs c' => ∀ J F' H', ExtX k.p F H F' H' → Wo k F' H' c' → Walks J F' R xs → W J H'
section
variable {Γ : Type} {α β γ : Type} (μ : Md)
def SE (E : EV Γ) (R : Rp α) (te : TE) (m : Γ → M α) : Prop := ∀ (k : Cn) (F H : Hp) (σ : L2.St) (ρ : Γ) (c : Nat) (Q : VK), Wo k F H c → EI k E F H σ ρ → (m ρ).wp c (VP k F H R Q) (XP μ k) → te σ H Q
def SN (E : EV Γ) (R : Rp α) (te : TE) (m : Γ → M (List α)) : Prop := ∀ (k : Cn) (F H : Hp) (σ : L2.St) (ρ : Γ) (c : Nat) (Q : VK), Wo k F H c → EI k E F H σ ρ → (m ρ).wp c (VN k F H R Q) (XP μ k) → te σ H Q
def ST (E : EV Γ) (tt : TT) (m : Γ → M Bool) : Prop := ∀ (k : Cn) (F H : Hp) (σ : L2.St) (ρ : Γ) (c : Nat) (Q : Bool → Hp → Prop), Wo k F H c → EI k E F H σ ρ → (m ρ).wp c (BP k F H Q) (XP μ k) → tt σ H Q
def SA (E : EV Γ) (S : RA α) (ta : TA) (m : Γ → M α) : Prop := ∀ (k : Cn) (F H : Hp) (σ : L2.St) (ρ : Γ) (c : Nat) (Q : List V → Hp → Prop), Wo k F H c → EI k E F H σ ρ → (m ρ).wp c (AP k F H S Q) (XP μ k) → ta σ H Q
def SI (E : EV Γ) (R : Rp α) (wi : TI) (m : Γ → M (List α)) : Prop := ∀ (k : Cn) (F H : Hp) (σ : L2.St) (ρ : Γ) (c : Nat) (W : It → Hp → Prop), Wo k F H c → EI k E F H σ ρ → (m ρ).wp c (IP k F H R W) (XP μ k) → wi σ H W
def OpS (r : R2) (Ra : Rp α) (Rb : Rp β) (R : Rp γ) (mf : α → β → M γ) : Prop := ∀ (k : Cn) (F H : Hp) (c : Nat) (x y : V) (a : α) (b : β) (Q : VK), Wo k F H c → Ra.r F x a → Rb.r F y b → (mf a b).wp c (VP k F H R Q) (XP μ k) → r x y H Q
def OpN (r : R2) (Ra : Rp α) (Rb : Rp β) (R : Rp γ) (mf : α → β → M (List γ)) : Prop := ∀ (k : Cn) (F H : Hp) (c : Nat) (x y : V) (a : α) (b : β) (Q : VK), Wo k F H c → Ra.r F x a → Rb.r F y b → (mf a b).wp c (VN k F H R Q) (XP μ k) → r x y H Q
def UnS (r : V → Hp → VK → Prop) (Ra : Rp α) (R : Rp γ) (mf : α → M γ) : Prop := ∀ (k : Cn) (F H : Hp) (c : Nat) (x : V) (a : α) (Q : VK), Wo k F H c → Ra.r F x a → (mf a).wp c (VP k F H R Q) (XP μ k) → r x H Q
def CaS (r : List V → Hp → VK → Prop) (S : RA α) (R : Rp γ) (mf : α → M γ) : Prop := ∀ (k : Cn) (F H : Hp) (c : Nat) (vs : List V) (a : α) (Q : VK), Wo k F H c → S.r F vs a → (mf a).wp c (VP k F H R Q) (XP μ k) → r vs H Q
def CaN (r : List V → Hp → VK → Prop) (S : RA α) (R : Rp γ) (mf : α → M (List γ)) : Prop := ∀ (k : Cn) (F H : Hp) (c : Nat) (vs : List V) (a : α) (Q : VK), Wo k F H c → S.r F vs a → (mf a).wp c (VN k F H R Q) (XP μ k) → r vs H Q
end
def rLs {α : Type} (R : Rp α) : Rp (List α) :=
  ⟨fun F v xs => ∃ p vs, v = .ref p ∧ F p = some (.lst vs) ∧ All2 (R.r F) vs xs, fun s ⟨p, vs, e, h, t⟩ => ⟨p, vs, e, s _ _ h, t.imp fun _ _ g => R.st s g⟩⟩
section
variable {Γ Γ' : Type} {α β γ δ : Type} {μ : Md} {E : EV Γ} {Ra : Rp α} {Rb : Rp β} {R : Rp γ} {Rd : Rp δ}
theorem VP.ext {k : Cn} {F H F1 H1 : Hp} {Q : VK} {a : α} {c : Nat} (x : ExtX k.p F H F1 H1) (h : VP k F H Ra Q a c) : VP k F1 H1 Ra Q a c := fun v F' H' y w r => h v F' H' (x.trans y) w r
theorem VN.ext {k : Cn} {F H F1 H1 : Hp} {Q : VK} {a : List α} {c : Nat} (x : ExtX k.p F H F1 H1) (h : VN k F H Ra Q a c) : VN k F1 H1 Ra Q a c := fun D vs F' H' y w n n0 r f t => h D vs F' H' (x.trans y) w (by
  cases q : H D with
  | none => rfl
  | some o => exact absurd n (x.on D (by rw [q]; simp))) n0 r f t
theorem wp_imp {m : M α} {c : Nat} {P Q : α → Nat → Prop} {X : Er → Prop} (h : m.wp c P X) (f : ∀ a d, P a d → Q a d) : m.wp c Q X := m.mono c f (fun _ z => z) h
theorem Wo.h0 {k : Cn} {F H : Hp} {c : Nat} (w : Wo k F H c) {D : Addr} (n : H D = none) : k.H0 D = none := by
  cases q : k.H0 D with
  | none => rfl
  | some o => exact absurd n (w.ext.on D (by rw [q]; simp))
theorem Wo.np {k : Cn} {F H : Hp} {c : Nat} (w : Wo k F H c) {D : Addr} (n : k.H0 D = none) : k.p ≠ some D := fun e => (w.dice D e).2.1 n
theorem Wo.fz {k : Cn} {F H : Hp} {c : Nat} (w : Wo k F H c) {D : Addr} {o : HO} (n : k.H0 D = none) (f : F D = none) (h : H D = some o) : Same F (upd F D o) ∧ Wo k (upd F D o) H c := by
  have s : Same F (upd F D o) := same_upd f
  have sub : Same (upd F D o) H := fun b u e => by
    by_cases z : b = D
    · subst z; rw [upd_same] at e; rw [h]; exact e
    · rw [upd_ne z] at e; exact w.sub _ _ e
  have h0 : ∀ b, k.H0 b ≠ none → b ≠ D := fun b nb z => by subst z; exact nb n
  exact ⟨s, sub, ⟨w.ext.fz.trans s, sub, w.ext.hpn, fun b hb => by rw [upd_ne (h0 b hb)]; exact w.ext.old b hb, w.ext.on, fun ta p hp => (w.ext.tb ta p hp).go ((upd_ne ((ta p hp).ne n)).trans (w.ext.tb ta p hp).1) (fun _ z => z) s⟩, fun a e => by
    obtain ⟨q1, q2, q3⟩ := w.dice a e
    exact ⟨by rw [upd_ne (h0 a q2)]; exact q1, q2, q3⟩⟩
theorem VN.of {k : Cn} {F H : Hp} {Q : VK} {xs : List α} {c : Nat} (h : VP k F H (rLs Ra) Q xs c) : VN k F H Ra Q xs c := fun D vs F' H' x w n n0 r f t => by
  obtain ⟨s, w2⟩ := w.fz n0 f r
  exact h (.ref D) _ H' ⟨x.fz.trans s, w2.sub, x.hpn, fun b hb => by
    rw [upd_ne (fun z => hb (by rw [z]; exact n))]; exact x.old b hb, x.on, fun ta p hp => (x.tb ta p hp).go ((upd_ne ((ta p hp).ne n)).trans (x.tb ta p hp).1) (fun _ z => z) s⟩ w2 ⟨D, vs, rfl, upd_same, t.imp fun _ _ g => Ra.st s g⟩
theorem SN.se {te : TE} {m : Γ → M (List α)} (h : SN μ E Ra te m) : SE μ E (rLs Ra) te m := fun k F H σ ρ c Q w e q => h k F H σ ρ c Q w e (wp_imp q fun _ _ z => VN.of z)
theorem OpN.os {r : R2} {mf : α → β → M (List γ)} (h : OpN μ r Ra Rb R mf) : OpS μ r Ra Rb (rLs R) mf := fun k F H c x y a b Q w p q z => h k F H c x y a b Q w p q (wp_imp z fun _ _ z => VN.of z)
theorem CaN.cs {r : List V → Hp → VK → Prop} {S : RA α} {mf : α → M (List γ)} (h : CaN μ r S R mf) : CaS μ r S (rLs R) mf := fun k F H c x a Q w p z => h k F H c x a Q w p (wp_imp z fun _ _ z => VN.of z)
theorem e_var {i : Nat} {g : Γ → α} (h : GetS E i (sVal Ra) g) : SE μ E Ra (tVar i) fun ρ => .ret (g ρ) := fun k F H σ ρ c Q w e q => by
  obtain ⟨o, h1, v, rfl, r⟩ := h.get e.r
  exact ⟨v, h1, q v F H (ExtX.refl w.sub) w r⟩
theorem e_c {v : V} {a : α} (h : ∀ F, Ra.r F v a) : SE μ E Ra (tC v) fun _ => .ret a := fun k F H σ ρ c Q w e q => q v F H (ExtX.refl w.sub) w (h F)
theorem e_int {i : Int} : SE μ E rInt (tC (.int i)) fun _ => .ret i := e_c fun _ => rfl
theorem e_bl {b : Bool} : SE μ E rBl (tC (.bl b)) fun _ => .ret b := e_c fun _ => rfl
theorem e_str {x : Str} : SE μ E rStr (tC (.str x)) fun _ => .ret x := e_c fun _ => rfl
theorem e_non : SE μ E rNon (tC .non) fun _ => .ret () := e_c fun _ => rfl
theorem e_op {r : R2} {ta tb : TE} {ma : Γ → M α} {mb : Γ → M β} {mf : α → β → M γ} (ho : OpS μ r Ra Rb R mf) (ha : SE μ E Ra ta ma) (hb : SE μ E Rb tb mb) :
    SE μ E R (tOp r ta tb) fun ρ => (ma ρ).bind fun a => (mb ρ).bind fun b => mf a b := fun k F H σ ρ c Q w e h =>
  ha k F H σ ρ c _ w e (wp_imp h fun a c1 q v F1 H1 x1 w1 r1 => hb k F1 H1 σ ρ c1 _ w1 (e.step x1) (wp_imp q fun b c2 q v2 F2 H2 x2 w2 r2 =>
    ho k F2 H2 c2 v v2 a b Q w2 (Ra.st x2.fz r1) r2 (wp_imp q fun _ _ z => VP.ext (x1.trans x2) z)))
theorem e_un {r : V → Hp → VK → Prop} {ta : TE} {ma : Γ → M α} {mf : α → M γ} (ho : UnS μ r Ra R mf) (ha : SE μ E Ra ta ma) :
    SE μ E R (tUn r ta) fun ρ => (ma ρ).bind mf := fun k F H σ ρ c Q w e h =>
  ha k F H σ ρ c _ w e (wp_imp h fun a c1 q v F1 H1 x1 w1 r1 => ho k F1 H1 c1 v a Q w1 r1 (wp_imp q fun _ _ z => VP.ext x1 z))
theorem o_ii {g : Int → Int → V} {f : Int → Int → Int} (h : ∀ i j, g i j = .int (f i j)) : OpS μ (rI0 g) rInt rInt rInt fun i j => .ret (f i j) := fun k F H c x y i j Q w hx hy q => ⟨i, j, hx, hy, q _ F H (ExtX.refl w.sub) w (h i j)⟩
theorem o_ib {g : Int → Int → V} {f : Int → Int → Bool} (h : ∀ i j, g i j = .bl (f i j)) : OpS μ (rI0 g) rInt rInt rBl fun i j => .ret (f i j) := fun k F H c x y i j Q w hx hy q => ⟨i, j, hx, hy, q _ F H (ExtX.refl w.sub) w (h i j)⟩
theorem o_iiC {C : Int → Int → Prop} {g : Int → Int → V} {f : Int → Int → Int} (h : ∀ i j, g i j = .int (f i j)) : OpS μ (rI C g) rInt rInt rInt fun i j => .need (C i j) (.ret (f i j)) := fun k F H c x y i j Q w hx hy q => ⟨i, j, hx, hy, q.1, q.2 _ F H (ExtX.refl w.sub) w (h i j)⟩
theorem u_ii {g : Int → V} {f : Int → Int} (h : ∀ i, g i = .int (f i)) : UnS μ (rU g) rInt rInt fun i => .ret (f i) := fun k F H c x i Q w hx q => ⟨i, hx, q _ F H (ExtX.refl w.sub) w (h i)⟩
structure ScR (R : Rp α) [DecidableEq α] : Prop where
  scal : ∀ {F F' : Hp} {x y : V} {a b : α}, R.r F x a → R.r F' y b → L2.scal x y = true ∧ decide (x = y) = decide (a = b)
theorem sc_int : ScR rInt := ⟨fun {_ _ _ _ a b} h k => by subst h k; exact ⟨rfl, by by_cases c : a = b; (· rw [c]; simp); (· rw [decide_eq_false c, decide_eq_false fun z => c (V.int.inj z)])⟩⟩
theorem sc_str : ScR rStr := ⟨fun {_ _ _ _ a b} h k => by subst h k; exact ⟨rfl, by by_cases c : a = b; (· rw [c]; simp); (· rw [decide_eq_false c, decide_eq_false fun z => c (V.str.inj z)])⟩⟩
theorem o_eq [DecidableEq α] (s : ScR Ra) : OpS μ rEq Ra Ra rBl fun a b => .ret (decide (a = b)) := fun k F H c x y a b Q w hx hy q => by
  obtain ⟨h1, h2⟩ := s.scal hx hy
  exact ⟨h1, q _ F H (ExtX.refl w.sub) w (by rw [h2]; rfl)⟩
theorem o_ne [DecidableEq α] (s : ScR Ra) : OpS μ rNe Ra Ra rBl fun a b => .ret (!decide (a = b)) := fun k F H c x y a b Q w hx hy q => by
  obtain ⟨h1, h2⟩ := s.scal hx hy
  exact ⟨h1, q _ F H (ExtX.refl w.sub) w (by rw [h2]; rfl)⟩
structure DpR (K : PySem.W.Frag) (R : Rp α) (d : α → PyData) (n : Nat) : Prop where
  dp : ∀ {F : Hp} {v : V} {a : α}, R.r F v a → Dp K F v (d a)
  deep : ∀ a, (d a).depth ≤ n
theorem shaped_of {d : PyData} {n : Nat} (h : d.depth ≤ n) (hn : n ≤ 64) (l : d.canLay0 = true) : SeqAt.shaped d = true := by
  unfold SeqAt.shaped
  rw [l, decide_eq_true (Nat.le_trans h hn)]; rfl
mutual
theorem dp_same {K : PySem.W.Frag} {F H : Hp} (s : Same F H) : ∀ (d : PyData) (v : V), Dp K F v d → Dp K H v d
  | _, _, .non => .non
  | _, _, .bl b => .bl b
  | _, _, .int i => .int i
  | _, _, .str x => .str x
  | _, _, .lst h t => .lst (s.seq h) (dps_same s _ _ t)
  | _, _, .tup h t => .tup (same_seqT s h) (dps_same s _ _ t)
theorem dps_same {K : PySem.W.Frag} {F H : Hp} (s : Same F H) : ∀ (ds : List PyData) (vs : List V), DpAll K F vs ds → DpAll K H vs ds
  | _, _, .nil => .nil
  | _, _, .cons h t => .cons (dp_same s _ _ h) (dps_same s _ _ t)
end
theorem Dp.same {K : PySem.W.Frag} {F H : Hp} {v : V} {d : PyData} (s : Same F H) (h : Dp K F v d) : Dp K H v d := dp_same s d v h
theorem o_eqD {K : PySem.W.Frag} {da : α → PyData} {db : β → PyData} {i j : Nat} (hA : DpR K Ra da i) (hB : DpR K Rb db j) (hi : i ≤ 64 := by decide) (hj : j ≤ 64 := by decide) : OpS μ (rEqD K) Ra Rb rBl fun a b => .need ((da a).canLay0 = true ∧ (db b).canLay0 = true) (.ret (PyData.eqv (da a) (db b))) := fun k F H c x y a b Q w hx hy q =>
  ⟨_, _, Dp.same w.sub (hA.dp hx), Dp.same w.sub (hB.dp hy), shaped_of (hA.deep a) hi q.1.1, shaped_of (hB.deep b) hj q.1.2, q.2 _ F H (ExtX.refl w.sub) w rfl⟩
theorem t_of {te : TE} {m : Γ → M Bool} (h : SE μ E rBl te m) : ST μ E (tTest te) m := fun k F H σ ρ c Q w e q => h k F H σ ρ c _ w e (wp_imp q fun b _ z v F' H' x w' r => ⟨b, r, z F' H' x w'⟩)
theorem t_b {te : TE} {m : Γ → M Bool} (h : SE μ E rBl te m) : ST μ E (tB te) m := fun k F H σ ρ c Q w e q => h k F H σ ρ c _ w e (wp_imp q fun b _ z v F' H' x w' r => ⟨b, r, z F' H' x w'⟩)
theorem BP.ext {k : Cn} {F H F1 H1 : Hp} {Q : Bool → Hp → Prop} {b : Bool} {c : Nat} (x : ExtX k.p F H F1 H1) (h : BP k F H Q b c) : BP k F1 H1 Q b c := fun F' H' y w => h F' H' (x.trans y) w
theorem t_not {tt : TT} {m : Γ → M Bool} (h : ST μ E tt m) : ST μ E (tNot tt) fun ρ => (m ρ).bind fun b => .ret (!b) := fun k F H σ ρ c Q w e q => h k F H σ ρ c _ w e (wp_imp q fun _ _ z F' H' x w' => z F' H' x w')
theorem t_and {tt tu : TT} {m n : Γ → M Bool} (h : ST μ E tt m) (h' : ST μ E tu n) : ST μ E (tAnd tt tu) fun ρ => (m ρ).bind fun b => .ifb b (n ρ) (.ret false) := fun k F H σ ρ c Q w e q => h k F H σ ρ c _ w e (wp_imp q fun b c1 z F' H' x w' => by
  cases b with
  | true => exact h' k F' H' σ ρ c1 Q w' (e.step x) (wp_imp z fun _ _ z => BP.ext x z)
  | false => exact z F' H' x w')
theorem t_or {tt tu : TT} {m n : Γ → M Bool} (h : ST μ E tt m) (h' : ST μ E tu n) : ST μ E (tOr tt tu) fun ρ => (m ρ).bind fun b => .ifb b (.ret true) (n ρ) := fun k F H σ ρ c Q w e q => h k F H σ ρ c _ w e (wp_imp q fun b c1 z F' H' x w' => by
  cases b with
  | false => exact h' k F' H' σ ρ c1 Q w' (e.step x) (wp_imp z fun _ _ z => BP.ext x z)
  | true => exact z F' H' x w')
theorem e_if {tt : TT} {ta tb : TE} {mt : Γ → M Bool} {ma mb : Γ → M α} (ht : ST μ E tt mt) (ha : SE μ E Ra ta ma) (hb : SE μ E Ra tb mb) : SE μ E Ra (tIf tt ta tb) fun ρ => (mt ρ).bind fun b => .ifb b (ma ρ) (mb ρ) := fun k F H σ ρ c Q w e q =>
  ht k F H σ ρ c _ w e (wp_imp q fun b c1 z F' H' x w' => by
    cases b with
    | true => exact ha k F' H' σ ρ c1 Q w' (e.step x) (wp_imp z fun _ _ z => VP.ext x z)
    | false => exact hb k F' H' σ ρ c1 Q w' (e.step x) (wp_imp z fun _ _ z => VP.ext x z))
theorem e_and {ta tb : TE} {m n : Γ → M Bool} (h : SE μ E rBl ta m) (h' : SE μ E rBl tb n) : SE μ E rBl (tAndV ta tb) fun ρ => (m ρ).bind fun b => .ifb b (n ρ) (.ret false) := fun k F H σ ρ c Q w e q => h k F H σ ρ c _ w e (wp_imp q fun b c1 z v F' H' x w' r => by
  refine ⟨b, r, ?_⟩
  cases b with
  | true => exact h' k F' H' σ ρ c1 Q w' (e.step x) (wp_imp z fun _ _ z => VP.ext x z)
  | false => exact z _ F' H' x w' rfl)
theorem e_or {ta tb : TE} {m n : Γ → M Bool} (h : SE μ E rBl ta m) (h' : SE μ E rBl tb n) : SE μ E rBl (tOrV ta tb) fun ρ => (m ρ).bind fun b => .ifb b (.ret true) (n ρ) := fun k F H σ ρ c Q w e q => h k F H σ ρ c _ w e (wp_imp q fun b c1 z v F' H' x w' r => by
  refine ⟨b, r, ?_⟩
  cases b with
  | false => exact h' k F' H' σ ρ c1 Q w' (e.step x) (wp_imp z fun _ _ z => VP.ext x z)
  | true => exact z _ F' H' x w' rfl)
theorem e_not {ta : TE} {m : Γ → M Bool} (h : SE μ E rBl ta m) : SE μ E rBl (tNotV ta) fun ρ => (m ρ).bind fun b => .ret (!b) := fun k F H σ ρ c Q w e q => h k F H σ ρ c _ w e (wp_imp q fun b c1 z v F' H' x w' r => ⟨b, r, z _ F' H' x w' rfl⟩)
theorem AP.ext {S : RA α} {k : Cn} {F H F1 H1 : Hp} {Q : List V → Hp → Prop} {b : α} {c : Nat} (x : ExtX k.p F H F1 H1) (h : AP k F H S Q b c) : AP k F1 H1 S Q b c := fun vs F' H' y w r => h vs F' H' (x.trans y) w r
theorem a_nil : SA μ E aNil tNil fun _ => .ret () := fun k F H σ ρ c Q w e q => q [] F H (ExtX.refl w.sub) w rfl
theorem a_cons {S : RA β} {ta : TE} {tb : TA} {ma : Γ → M α} {mb : Γ → M β} (ha : SE μ E Ra ta ma) (hb : SA μ E S tb mb) : SA μ E (aCons Ra S) (tCons ta tb) fun ρ => (ma ρ).bind fun a => (mb ρ).bind fun b => .ret (a, b) := fun k F H σ ρ c Q w e h =>
  ha k F H σ ρ c _ w e (wp_imp h fun a c1 q v F1 H1 x1 w1 r1 => hb k F1 H1 σ ρ c1 _ w1 (e.step x1) (wp_imp q fun b c2 q vs F2 H2 x2 w2 r2 => q _ F2 H2 (x1.trans x2) w2 ⟨v, vs, rfl, Ra.st x2.fz r1, r2⟩))
theorem le_n (n : Nat) (h : n ≤ 1000 := by decide) : n ≤ sizeLine := by rw [sizeLine_eq]; omega
theorem e_tup {K : PySem.W.Frag} {S : RA α} {ta : TA} {ma : Γ → M α} (ha : SA μ E S ta ma) (hn : S.n ≤ sizeLine) : SE μ E (rTx K S) (tTup ta) ma := fun k F H σ ρ c Q w e h =>
  ha k F H σ ρ c _ w e (wp_imp h fun a c1 q vs F1 H1 x1 w1 r1 => ⟨by rw [S.len r1]; exact hn, fun p n => by
    have x2 := ExtX.new (p := k.p) w1.sub n (.tup vs)
    exact q _ _ _ (x1.trans x2) (w1.new n _) ⟨p, vs, rfl, .of upd_same, S.st x2.fz r1⟩⟩)
structure HomR (R : Rp α) (S : RA β) (f : β → List α) : Prop where
  all : ∀ {F : Hp} {vs : List V} {b : β}, S.r F vs b → All2 (R.r F) vs (f b)
theorem hom_nil : HomR Ra aNil fun _ => [] := ⟨fun h => by subst h; exact .nil⟩
theorem hom_cons {S : RA β} {f : β → List α} (h : HomR Ra S f) : HomR Ra (aCons Ra S) fun b => b.1 :: f b.2 := ⟨fun ⟨v, ws, e, r, t⟩ => by subst e; exact .cons r (h.all t)⟩
theorem n_lst {S : RA β} {f : β → List α} {ta : TA} {ma : Γ → M β} (ho : HomR Ra S f) (ha : SA μ E S ta ma) (hn : S.n ≤ sizeLine) : SN μ E Ra (tLst ta) fun ρ => (ma ρ).bind fun b => .ret (f b) := fun k F H σ ρ c Q w e h =>
  ha k F H σ ρ c _ w e (wp_imp h fun a c1 q vs F1 H1 x1 w1 r1 => ⟨by rw [S.len r1]; exact hn, fun p n => by
    have x2 := ExtX.own (p := k.p) w1.sub n (.lst vs)
    have nH : H p = none := by
      cases z : H p with
      | none => rfl
      | some o => exact absurd n (x1.on p (by rw [z]; simp))
    exact q p vs _ _ (x1.trans x2) (w1.own n _) nH (w.h0 nH) upd_same (w1.sub.free n) (ho.all r1)⟩)
theorem e_tupH {K : PySem.W.Frag} {S : RA β} {f : β → List α} {ta : TA} {ma : Γ → M β} (ho : HomR Ra S f) (ha : SA μ E S ta ma) (hn : S.n ≤ sizeLine) : SE μ E (rTup K Ra) (tTup ta) fun ρ => (ma ρ).bind fun b => .ret (f b) := fun k F H σ ρ c Q w e h =>
  ha k F H σ ρ c _ w e (wp_imp h fun a c1 q vs F1 H1 x1 w1 r1 => ⟨by rw [S.len r1]; exact hn, fun p n => by
    have x2 := ExtX.new (p := k.p) w1.sub n (.tup vs)
    exact q _ _ _ (x1.trans x2) (w1.new n _) ⟨p, vs, rfl, .of upd_same, (ho.all r1).imp fun _ _ g => Ra.st x2.fz g⟩⟩)
structure RGet (S : RA α) (i : Nat) (R : Rp β) (g : α → β) : Prop where
  get : ∀ {F : Hp} {vs : List V} {a : α}, S.r F vs a → ∃ v, vs[i]? = some v ∧ R.r F v (g a)
theorem rget0 {S : RA β} : RGet (aCons Ra S) 0 Ra (·.1) := ⟨fun ⟨v, ws, e, r, _⟩ => ⟨v, by rw [e]; rfl, r⟩⟩
theorem rgetS {S : RA β} {i : Nat} {R : Rp γ} {g : β → γ} (h : RGet S i R g) : RGet (aCons Ra S) (i + 1) R (fun a => g a.2) := ⟨fun ⟨v, ws, e, _, t⟩ => by obtain ⟨u, q, r⟩ := h.get t; exact ⟨u, by rw [e]; simpa using q, r⟩⟩
theorem e_ixX {K : PySem.W.Frag} {S : RA α} {i : Nat} {g : α → β} {ta : TE} {ma : Γ → M α} (hg : RGet S i Rb g) (ha : SE μ E (rTx K S) ta ma) : SE μ E Rb (tOp (rIxT K) ta (tC (.int (i : Int)))) fun ρ => (ma ρ).bind fun a => .ret (g a) := fun k F H σ ρ c Q w e h =>
  ha k F H σ ρ c _ w e (wp_imp h fun a c1 q v F1 H1 x1 w1 ⟨p, vs, ex, hp, r⟩ => by
    obtain ⟨u, hu, ru⟩ := hg.get r
    exact ⟨p, vs, _, u, ex, rfl, same_seqT w1.sub hp, atI_nat hu, q u F1 H1 x1 w1 ru⟩)
theorem e_ca {r : List V → Hp → VK → Prop} {S : RA α} {ta : TA} {ma : Γ → M α} {mf : α → M γ} (hc : CaS μ r S R mf) (ha : SA μ E S ta ma) : SE μ E R (tCB r ta) fun ρ => (ma ρ).bind mf := fun k F H σ ρ c Q w e h =>
  ha k F H σ ρ c _ w e (wp_imp h fun a c1 q vs F1 H1 x1 w1 r1 => hc k F1 H1 c1 vs a Q w1 r1 (wp_imp q fun _ _ z => VP.ext x1 z))
theorem n_ca {r : List V → Hp → VK → Prop} {S : RA α} {ta : TA} {ma : Γ → M α} {mf : α → M (List γ)} (hc : CaN μ r S R mf) (ha : SA μ E S ta ma) : SN μ E R (tCB r ta) fun ρ => (ma ρ).bind mf := fun k F H σ ρ c Q w e h =>
  ha k F H σ ρ c _ w e (wp_imp h fun a c1 q vs F1 H1 x1 w1 r1 => hc k F1 H1 c1 vs a Q w1 r1 (wp_imp q fun _ _ z => VN.ext x1 z))
def spOf (S : RA α) (R : Rp β) (m : α → M β) : Sp := fun vs H Q _ => ∃ F a, Same F H ∧ S.r F vs a ∧
  (m a).wp 0 (fun b _ => ∀ v F' H', ExtX none F H F' H' → R.r F' v b → Q v H') (fun _ => False)
theorem XP.no {k : Cn} {F H : Hp} {c : Nat} (w : Wo k F H c) {e : Er} (h : XP md0 k e) : False := h .none none F H w.ext trivial
theorem e_call {S : RA α} {ta : TA} {ma : Γ → M α} {m : α → M γ} (ha : SA md0 E S ta ma) : SE md0 E R (tCall (spOf S R m) [] E0 ta) fun ρ => (ma ρ).bind fun a => (m a).still := fun k F H σ ρ c Q w e h =>
  ha k F H σ ρ c _ w e (wp_imp h fun a c1 q vs F1 H1 x1 w1 r1 => by
    show spOf S R m (vs ++ []) H1 Q E0
    rw [List.append_nil]
    exact ⟨F1, a, w1.sub, r1, (m a).mono 0 (fun b _ z v F' H' x r => z v F' H' (x1.trans (w1.call x).1) (w1.call x).2 r) (fun _ z => XP.no w1 z) q⟩)
theorem Wo.callD {k : Cn} {F H F' H' : Hp} {c c' : Nat} {p : Addr} (w : Wo k F H c) (e : k.p = some p) (x : ExtX (some p) F H F' H') (f : F' p = none) (d : Dice p H' c') : ExtX k.p F H F' H' ∧ Wo k F' H' c' := by
  rw [← e] at x
  refine ⟨x, x.sub, w.ext.trans x, fun a ea => ?_⟩
  obtain rfl : p = a := Option.some.inj (e.symm.trans ea)
  exact ⟨f, (w.dice p e).2.1, d⟩
end
inductive Ct (Γ Δ β : Type) where
  | nx (ρ : Γ)
  | rt (b : β)
  | bk (d : Δ)
  | ct (d : Δ)
namespace M
variable {Γ Γ' Δ α β : Type}
def thnK (f : Γ → M (Ct Γ' Δ β)) : Ct Γ Δ β → M (Ct Γ' Δ β)
  | .nx ρ => f ρ
  | .rt b => .ret (.rt b)
  | .bk d => .ret (.bk d)
  | .ct d => .ret (.ct d)
def thn (m : M (Ct Γ Δ β)) (f : Γ → M (Ct Γ' Δ β)) : M (Ct Γ' Δ β) := m.bind (thnK f)
def forK (f : Γ → M (Ct Γ Δ β)) : Ct Γ Γ β → M (Ct Γ Δ β)
  | .nx ρ => f ρ
  | .ct ρ => f ρ
  | .bk ρ => .ret (.nx ρ)
  | .rt b => .ret (.rt b)
def forM0 : List α → (α → Γ → M (Ct Γ Γ β)) → Γ → M (Ct Γ Δ β)
  | [], _, ρ => .ret (.nx ρ)
  | x :: xs, f, ρ => (f x ρ).bind (forK fun ρ' => forM0 xs f ρ')
theorem forM_ex {Γ Δ α β : Type} : ∃ g : List α → (α → Γ → M (Ct Γ Γ β)) → Γ → M (Ct Γ Δ β), (∀ f ρ, g [] f ρ = .ret (.nx ρ)) ∧ ∀ x xs f ρ, g (x :: xs) f ρ = (f x ρ).bind (forK fun ρ' => g xs f ρ') := ⟨forM0, fun _ _ => rfl, fun _ _ _ _ => rfl⟩
noncomputable def forM : List α → (α → Γ → M (Ct Γ Γ β)) → Γ → M (Ct Γ Δ β) := Classical.choose forM_ex
theorem forM_nil {f : α → Γ → M (Ct Γ Γ β)} {ρ : Γ} : forM (Δ := Δ) [] f ρ = .ret (.nx ρ) := (Classical.choose_spec (forM_ex (Γ := Γ) (Δ := Δ) (α := α) (β := β))).1 f ρ
theorem forM_cons {x : α} {xs : List α} {f : α → Γ → M (Ct Γ Γ β)} {ρ : Γ} : forM (Δ := Δ) (x :: xs) f ρ = (f x ρ).bind (forK fun ρ' => forM xs f ρ') := (Classical.choose_spec (forM_ex (Γ := Γ) (Δ := Δ) (α := α) (β := β))).2 x xs f ρ
def none {α : Type} : M α := ⟨fun _ _ _ => False, fun _ _ _ _ _ _ _ k => k⟩
def lcM0 : List α → (α → M (Option β)) → M (List β)
  | [], _ => .ret []
  | x :: xs, f => (f x).bind fun o => (lcM0 xs f).bind fun ys => .ret (o.toList ++ ys)
theorem lcM_ex {α β : Type} : ∃ g : List α → (α → M (Option β)) → M (List β), (∀ f, g [] f = .ret []) ∧ ∀ x xs f, g (x :: xs) f = (f x).bind fun o => (g xs f).bind fun ys => .ret (o.toList ++ ys) := ⟨lcM0, fun _ => rfl, fun _ _ _ => rfl⟩
noncomputable def lcM : List α → (α → M (Option β)) → M (List β) := Classical.choose lcM_ex
theorem lcM_nil {f : α → M (Option β)} : lcM [] f = .ret [] := (Classical.choose_spec (lcM_ex (α := α) (β := β))).1 f
theorem lcM_cons {x : α} {xs : List α} {f : α → M (Option β)} : lcM (x :: xs) f = (f x).bind fun o => (lcM xs f).bind fun ys => .ret (o.toList ++ ys) := (Classical.choose_spec (lcM_ex (α := α) (β := β))).2 x xs f
def finK : Ct Γ Unit β → M β
  | .rt b => .ret b
  | _ => M.none
def finNK : Ct Γ Unit Unit → M Unit
  | .rt b => .ret b
  | .nx _ => .ret ()
  | _ => M.none
def fin (m : M (Ct Γ Unit β)) : M β := m.bind finK
def finN (m : M (Ct Γ Unit Unit)) : M Unit := m.bind finNK
end M
def SP {Γ Δ β : Type} (k : Cn) (F0 : Hp) (E' : EV Γ) (El : EV Δ) (R : Rp β) (D : Ends) : Ct Γ Δ β → Nat → Prop := fun t c' => match t with
  | .nx ρ => ∀ F H σ, Same F0 F → Wo k F H c' → EI k E' F H σ ρ → D.nx σ H
  | .rt b => ∀ v F H, Wo k F H c' → R.r F v b → D.rt v H
  | .bk d => ∀ F H σ, Same F0 F → Wo k F H c' → EI k El F H σ d → D.bk σ H
  | .ct d => ∀ F H σ, Same F0 F → Wo k F H c' → EI k El F H σ d → D.ct σ H
theorem SP.fz {Γ Δ β : Type} {k : Cn} {F0 F1 : Hp} {E' : EV Γ} {El : EV Δ} {R : Rp β} {D : Ends} {t : Ct Γ Δ β} {c : Nat} (s : Same F0 F1) (h : SP k F0 E' El R D t c) : SP k F1 E' El R D t c := by
  cases t with
  | nx ρ => exact fun F H σ z => h F H σ (s.trans z)
  | rt b => exact h
  | bk ρ => exact fun F H σ z => h F H σ (s.trans z)
  | ct ρ => exact fun F H σ z => h F H σ (s.trans z)
def SS {Γ Γ' Δ β : Type} (μ : Md) (E : EV Γ) (E' : EV Γ') (El : EV Δ) (R : Rp β) (ts : TS) (m : Γ → M (Ct Γ' Δ β)) : Prop :=
  ∀ (k : Cn) (F H : Hp) (σ : L2.St) (ρ : Γ) (c : Nat) (D : Ends), Wo k F H c → EI k E F H σ ρ → (m ρ).wp c (SP k F E' El R D) (XP μ k) → ts D σ H
def SG {Γ Γ' α : Type} (E : EV Γ) (R : Rp α) (g : TG) (E' : EV Γ') (put : Γ → α → Γ') : Prop :=
  ∀ (k : Cn) (F H : Hp) (σ : L2.St) (ρ : Γ) (c : Nat) (v : V) (a : α) (Q : L2.St → Hp → Prop), Wo k F H c → EI k E F H σ ρ → R.r F v a → (∀ σ', EI k E' F H σ' (put ρ a) → Q σ' H) → g v σ H Q
section
variable {Γ Γ' Γ'' Δ Δ' α β γ δ : Type} {μ : Md} {E : EV Γ} {E' : EV Γ'} {E'' : EV Γ''} {El : EV Δ} {El' : EV Δ'} {Ra : Rp α} {Rb : Rp β} {R : Rp γ}
theorem g_name {i : Nat} {put : Γ → α → Γ'} (h : PutS E i (sVal Ra) E' put) : SG E Ra (gName i) E' put := fun k F H σ ρ c v a Q w e r q =>
  q _ ⟨h.put e.r ⟨v, rfl, r⟩, h.nd e.nd fun _ z => nomatch z⟩
theorem s_asg {te : TE} {m : Γ → M α} {g : TG} {put : Γ → α → Γ'} (he : SE μ E Ra te m) (hg : SG E Ra g E' put) : SS μ E E' El R (tAsg te g) fun ρ => (m ρ).bind fun a => .ret (.nx (put ρ a)) := fun k F H σ ρ c D w e h =>
  he k F H σ ρ c _ w e (wp_imp h fun a c1 q v F1 H1 x1 w1 r1 => hg k F1 H1 σ ρ c1 v a _ w1 (e.step x1) r1 fun σ' e' => q F1 H1 σ' x1.fz w1 e')
theorem s_nil : SS μ E E El R tNext fun ρ => .ret (.nx ρ) := fun k F H σ ρ c D w e h => h F H σ (Same.refl F) w e
theorem s_seq {t u : TS} {m : Γ → M (Ct Γ' Δ γ)} {n : Γ' → M (Ct Γ'' Δ γ)} (h : SS μ E E' El R t m) (h' : SS μ E' E'' El R u n) : SS μ E E'' El R (tSeq t u) fun ρ => (m ρ).thn n := fun k F H σ ρ c D w e q =>
  h k F H σ ρ c _ w e (wp_imp q fun t c1 z => by
    cases t with
    | nx ρ' => exact fun F1 H1 σ1 s1 w1 e1 => h' k F1 H1 σ1 ρ' c1 D w1 e1 (wp_imp z fun _ _ z => z.fz s1)
    | rt b => exact z
    | bk d => exact z
    | ct d => exact z)
theorem s_if {tt : TT} {t u : TS} {mt : Γ → M Bool} {m n : Γ → M (Ct Γ' Δ γ)} (ht : ST μ E tt mt) (h : SS μ E E' El R t m) (h' : SS μ E E' El R u n) : SS μ E E' El R (tIfS tt t u) fun ρ => (mt ρ).bind fun b => .ifb b (m ρ) (n ρ) := fun k F H σ ρ c D w e q =>
  ht k F H σ ρ c _ w e (wp_imp q fun b c1 z F1 H1 x1 w1 => by
    cases b with
    | true => exact h k F1 H1 σ ρ c1 D w1 (e.step x1) (wp_imp z fun _ _ z => z.fz x1.fz)
    | false => exact h' k F1 H1 σ ρ c1 D w1 (e.step x1) (wp_imp z fun _ _ z => z.fz x1.fz))
theorem s_ret {te : TE} {m : Γ → M γ} (he : SE μ E R te m) : SS μ E E' El R (tRet te) fun ρ => (m ρ).bind fun a => .ret (.rt a) := fun k F H σ ρ c D w e h =>
  he k F H σ ρ c _ w e (wp_imp h fun a c1 q v F1 H1 x1 w1 r1 => q v F1 H1 w1 r1)
def Wk (E : EV Γ) (E' : EV Γ') (f : Γ → Γ') : Prop := ∀ (k : Cn) (F H : Hp) (σ : L2.St) (ρ : Γ) (c : Nat), Wo k F H c → EI k E F H σ ρ → ∃ F', Same F F' ∧ Wo k F' H c ∧ EI k E' F' H σ (f ρ)
theorem s_post {t : TS} {f : Γ' → Γ''} {m : Γ → M (Ct Γ' Δ γ)} (h : SS μ E E' El R t m) (wk : Wk E' E'' f) : SS μ E E'' El R t fun ρ => (m ρ).thn fun ρ' => .ret (.nx (f ρ')) := fun k F H σ ρ c D w e q =>
  h k F H σ ρ c D w e (wp_imp q fun t c1 z => by
    cases t with
    | nx ρ' =>
      intro F1 H1 σ1 s1 w1 e1
      obtain ⟨F', s', w', e'⟩ := wk k F1 H1 σ1 ρ' c1 w1 e1
      exact z F' H1 σ1 (s1.trans s') w' e'
    | rt b => exact z
    | bk d => exact z
    | ct d => exact z)
structure Fg (E : EV Γ) (E' : EV Γ') (f : Γ → Γ') : Prop where
  r : ∀ {p : Option Addr} {H0 F H : Hp} {σ : L2.St} {ρ : Γ}, E.r p H0 F H σ ρ → E'.r p H0 F H σ (f ρ)
  ow : ∀ σ, (E'.owns σ).Sublist (E.owns σ)
theorem fg_keep {S : SR α} {f : Γ → Γ'} (h : Fg E E' f) : Fg (eCons S E) (eCons S E') fun ρ => (ρ.1, f ρ.2) := ⟨fun ⟨o, τ, e, r, t⟩ => ⟨o, τ, e, r, h.r t⟩, fun σ => by
  cases σ with
  | nil => exact List.Sublist.refl _
  | cons o τ => exact List.Sublist.append (List.Sublist.refl _) (h.ow τ)⟩
theorem fg_un {S : SR α} {f : Γ → Γ'} (h : Fg E E' f) : Fg (eCons S E) (eCons sUn E') fun ρ => ((), f ρ.2) := ⟨fun ⟨o, τ, e, r, t⟩ => ⟨o, τ, e, trivial, h.r t⟩, fun σ => by
  cases σ with
  | nil => exact List.Sublist.refl _
  | cons o τ => exact (h.ow τ).trans (List.sublist_append_right _ _)⟩
theorem wk_fg {f : Γ → Γ'} (h : Fg E E' f) : Wk E E' f := fun k F H σ ρ c w e => ⟨F, Same.refl F, w, h.r e.r, e.nd.sublist (h.ow σ)⟩
structure FzS (E : EV Γ) (i : Nat) (R : Rp α) (E' : EV Γ') (f : Γ → Γ') : Prop where
  get : ∀ {p : Option Addr} {H0 F H : Hp} {σ : L2.St} {ρ : Γ}, E.r p H0 F H σ ρ → ∃ D vs, σ[i]? = some (some (.ref D)) ∧ H D = some (.lst vs) ∧ F D = none ∧ H0 D = none ∧ D ∈ E.owns σ
  put : ∀ {p : Option Addr} {H0 F H : Hp} {σ : L2.St} {ρ : Γ} {D : Addr} {vs : List V}, E.r p H0 F H σ ρ → (E.owns σ).Nodup → σ[i]? = some (some (.ref D)) → H D = some (.lst vs) → Same F (upd F D (.lst vs)) → E'.r p H0 (upd F D (.lst vs)) H σ (f ρ)
  ow : ∀ σ, (E'.owns σ).Sublist (E.owns σ)
theorem s_for {wi : TI} {g : TG} {tb : TS} {ml : Γ → M (List α)} {put : Γ → α → Γ'} {mb : Γ' → M (Ct Γ Γ γ)} (hi : SI μ E Ra wi ml) (hg : SG E Ra g E' put) (hb : SS μ E' E E R tb mb) :
    SS μ E E El R (tFor wi g tb) fun ρ => (ml ρ).bind fun xs => M.forM xs (fun a ρ => mb (put ρ a)) ρ := fun k F H σ ρ c D w e h =>
  hi k F H σ ρ c _ w e (wp_imp h fun xs c1 q J F1 H1 x1 w1 wk => by
    refine ⟨fun i n σ' H' => n = xs.length - i ∧ i ≤ xs.length ∧ ∃ F' ρ' c', Same F1 F' ∧ Wo k F' H' c' ∧ EI k E F' H' σ' ρ' ∧ (M.forM (Δ := Δ) (xs.drop i) (fun a ρ => mb (put ρ a)) ρ').wp c' (SP k F1 E El R D) (XP μ k),
      ⟨xs.length, by simp, Nat.zero_le _, F1, ρ, c1, Same.refl _, w1, e.step x1, wp_imp q fun _ _ z => z.fz x1.fz⟩, ?_⟩
    rintro i n σ' H' ⟨rfl, hi, F', ρ', c', sF, w', e', q'⟩
    obtain ⟨go, stop⟩ := wk i F' H' sF w'.sub
    by_cases hlt : i < xs.length
    · obtain ⟨g1, g2⟩ := go _ (List.getElem?_eq_getElem hlt)
      have ed : xs.drop i = xs[i] :: xs.drop (i + 1) := List.drop_eq_getElem_cons hlt
      rw [ed, M.forM_cons] at q'
      refine .inr ⟨g1, fun σ2 H2 => ∃ F2 ρ2 c2, Same F1 F2 ∧ Wo k F2 H2 c2 ∧ EI k E F2 H2 σ2 ρ2 ∧ (M.forM (Δ := Δ) (xs.drop (i + 1)) (fun a ρ => mb (put ρ a)) ρ2).wp c2 (SP k F1 E El R D) (XP μ k),
        fun σ2 H2 z => ⟨xs.length - (i + 1), by omega, rfl, hlt, z⟩, fun x H2 y => ?_⟩
      obtain ⟨F2, x2, r2⟩ := g2 x H2 y
      obtain ⟨x2', w2⟩ := w'.call x2
      have s12 : Same F1 F2 := sF.trans x2.fz
      refine hg k F2 H2 σ' ρ' c' x _ _ w2 (e'.step x2') r2 fun σ3 e3 => ?_
      refine hb k F2 H2 σ3 _ c' _ w2 e3 ((mb _).mono c' (fun t c3 z => ?_) (fun _ z => z) q')
      cases t with
      | nx ρ4 => exact fun F4 H4 σ4 s4 w4 e4 => ⟨F4, ρ4, c3, s12.trans s4, w4, e4, z⟩
      | ct ρ4 => exact fun F4 H4 σ4 s4 w4 e4 => ⟨F4, ρ4, c3, s12.trans s4, w4, e4, z⟩
      | bk ρ4 => exact fun F4 H4 σ4 s4 w4 e4 => z F4 H4 σ4 (s12.trans s4) w4 e4
      | rt b => exact fun v F4 H4 w4 r4 => z v F4 H4 w4 r4
    · have e0 : i = xs.length := by omega
      subst e0
      rw [List.drop_length, M.forM_nil] at q'
      exact .inl ⟨stop (Nat.le_refl _), q' F' H' σ' sF w' e'⟩)
theorem ExtX.mod {p : Option Addr} {F H F' H' : Hp} {D : Addr} {o : HO} (x : ExtX p F H F' H') (n : H D = none) (f : F' D = none) : ExtX p F H F' (upd H' D o) := by
  refine ⟨x.fz, fun b u e => ?_, fun b u np nt e => ?_, x.old, fun b nb => ?_, fun ta p hp => (x.tb ta p hp).go (x.tb ta p hp).1 (fun o z => by rw [upd_ne ((ta p hp).ne n)]; exact z) (Same.refl _)⟩
  · rw [upd_ne (ne_of_none e f)]; exact x.sub _ _ e
  · rw [upd_ne (ne_of_none e n)]; exact x.hpn b u np nt e
  · by_cases c : b = D
    · subst c; rw [upd_same]; simp
    · rw [upd_ne c]; exact x.on b nb
theorem Wo.mod {k : Cn} {F H : Hp} {c : Nat} {D : Addr} {o : HO} (w : Wo k F H c) (n : k.H0 D = none) (f : F D = none) : Wo k F (upd H D o) c := by
  have x := w.ext.mod (o := o) n f
  refine ⟨x.sub, x, fun a e => ?_⟩
  obtain ⟨h1, h2, h3⟩ := w.dice a e
  have ne : a ≠ D := fun z => by subst z; exact h2 n
  obtain ⟨d0, d1, d2, h, r⟩ := h3
  exact ⟨h1, h2, d0, d1, d2, by rw [upd_ne ne]; exact h, r⟩
def SGw (js : List Nat) (E : EV Γ) (R : Rp α) (g : TG) (E' : EV Γ') (put : Γ → α → Γ') : Prop :=
  ∀ (k : Cn) (F H : Hp) (σ : L2.St) (ρ : Γ) (c : Nat) (v : V) (a : α) (Q : L2.St → Hp → Prop), Wo k F H c → EI k E F H σ ρ → R.r F v a → (∀ σ', wipe σ' js = wipe σ js → EI k E' F H σ' (put ρ a) → Q σ' H) → g v (wipe σ js) H Q
theorem gw_name {j : Nat} {put : Γ → α → Γ'} (h : PutS E j (sVal Ra) E' put) : SGw [j] E Ra (gName j) E' put := fun k F H σ ρ c v a Q w e r q => by
  show Q ((σ.set j none).set j (some v)) H
  rw [List.set_set]
  refine q _ ?_ ⟨h.put e.r ⟨v, rfl, r⟩, h.nd e.nd fun _ z => nomatch z⟩
  show (σ.set j (some v)).set j none = σ.set j none
  rw [List.set_set]
theorem EI.upd {k : Cn} {F H : Hp} {σ : L2.St} {ρ : Γ} {D : Addr} {o : HO} (e : EI k E F H σ ρ) (n : D ∉ E.owns σ) (w : NwL H D) : EI k E F (L2.upd H D o) σ ρ := ⟨E.upd n w e.r, e.nd⟩
theorem t_yes : ST μ E tYes fun _ => .ret true := fun k F H σ ρ c Q w e q => q F H (ExtX.refl w.sub) w
theorem n_lc {wi : TI} {tt : TT} {te : TE} {js : List Nat} {ml : Γ → M (List α)} {put : Γ → α → Γ'} {mt : Γ' → M Bool} {me : Γ' → M β} {gg : TG} (hi : SI μ E Ra wi ml) (hg : SGw js E Ra gg E' put) (ht : ST μ E' tt mt) (he : SE μ E' Rb te me) :
    SN μ E Rb (tLc wi gg tt te js) fun ρ => (ml ρ).bind fun xs => .need (xs.length ≤ 1000000) (M.lcM xs fun a => (mt (put ρ a)).bind fun b => .ifb b ((me (put ρ a)).bind fun y => .ret (some y)) (.ret none)) := fun k F H σ ρ c Q w e h =>
  hi k F H σ ρ c _ w e (wp_imp h fun xs c1 ⟨hxs, q⟩ J F1 H1 x1 w1 wk D nD => by
    have nDH : H D = none := by
      cases z : H D with
      | none => rfl
      | some o => exact absurd nD (x1.on D (by rw [z]; simp))
    have nD0 := w.h0 nDH
    have nDF : F1 D = none := w1.sub.free nD
    have now : D ∉ E.owns σ := fun z => (E.has e.r z).1 nDH
    have np : k.p ≠ some D := w.np nD0
    refine ⟨fun i n H' => n = xs.length - i ∧ i ≤ xs.length ∧ ∃ F' c' acc ys, Same F1 F' ∧ ExtX k.p F H F' H' ∧ Wo k F' H' c' ∧ EI k E F' H' σ ρ ∧ F' D = none ∧ H' D = some (.lst acc) ∧ acc.length ≤ i ∧ All2 (Rb.r F') acc ys ∧
        (M.lcM (xs.drop i) fun a => (mt (put ρ a)).bind fun b => .ifb b ((me (put ρ a)).bind fun y => .ret (some y)) (.ret none)).wp c' (fun zs c => VN k F H Rb Q (ys ++ zs) c) (XP μ k),
      ⟨xs.length, by simp, Nat.zero_le _, F1, c1, [], [], Same.refl _, x1.mod nDH nDF, w1.mod nD0 nDF, (e.step x1).upd now (.inl nD), nDF, upd_same, Nat.le_refl _, .nil, q⟩, ?_⟩
    rintro i n H' ⟨rfl, hi, F', c', acc, ys, s1, x', w', e', f', hD', hl, al, q'⟩
    obtain ⟨go, stop⟩ := wk i F' H' s1 w'.sub
    by_cases hlt : i < xs.length
    · obtain ⟨g1, g2⟩ := go _ (List.getElem?_eq_getElem hlt)
      have ed : xs.drop i = xs[i] :: xs.drop (i + 1) := List.drop_eq_getElem_cons hlt
      rw [ed, M.lcM_cons] at q'
      refine .inr ⟨g1, fun H2 => i + 1 ≤ xs.length ∧ ∃ F' c' acc ys, Same F1 F' ∧ ExtX k.p F H F' H2 ∧ Wo k F' H2 c' ∧ EI k E F' H2 σ ρ ∧ F' D = none ∧ H2 D = some (.lst acc) ∧ acc.length ≤ i + 1 ∧ All2 (Rb.r F') acc ys ∧
        (M.lcM (xs.drop (i + 1)) fun a => (mt (put ρ a)).bind fun b => .ifb b ((me (put ρ a)).bind fun y => .ret (some y)) (.ret none)).wp c' (fun zs c => VN k F H Rb Q (ys ++ zs) c) (XP μ k),
        fun H2 ⟨z0, z⟩ => ⟨xs.length - (i + 1), by omega, rfl, z0, z⟩, fun x H2 y => ?_⟩
      obtain ⟨F2, x2, r2⟩ := g2 x H2 y
      obtain ⟨x2', w2⟩ := w'.call x2
      refine hg k F2 H2 σ ρ c' x _ _ w2 (e'.step x2') r2 fun σ3 hw e3 => ⟨hw, ?_⟩
      refine ht k F2 H2 σ3 _ c' _ w2 e3 (wp_imp q' fun b c3 z F3 H3 x3 w3 => ?_)
      have x13 := x2'.trans x3
      have f3 : F3 D = none := (x13.old D (some_ne hD')).trans f'
      have h3 : H3 D = some (.lst acc) := x13.hp D _ np hD'
      cases b with
      | false => exact ⟨hlt, F3, c3, acc, ys, s1.trans x13.fz, x'.trans x13, w3, e'.step x13, f3, h3, Nat.le_succ_of_le hl, al.imp fun _ _ g => Rb.st x13.fz g, z⟩
      | true =>
        refine he k F3 H3 σ3 _ c3 _ w3 (e3.step x3) (wp_imp z fun y c4 z v F4 H4 x4 w4 r4 => ?_)
        have x14 := x13.trans x4
        have f4 : F4 D = none := (x14.old D (some_ne hD')).trans f'
        have h4 : H4 D = some (.lst acc) := x14.hp D _ np hD'
        refine ⟨acc, h4, by rw [sizeLine_eq]; omega, hlt, F4, c4, acc ++ [v], ys ++ [y], s1.trans x14.fz, (x'.trans x14).mod nDH f4, w4.mod nD0 f4, (e'.step x14).upd now (.lst h4), f4, upd_same, by rw [List.length_append]; exact Nat.succ_le_succ hl, (al.imp fun _ _ g => Rb.st x14.fz g).snoc r4, ?_⟩
        exact wp_imp z fun zs c z => by
          rw [List.append_assoc]
          exact z
    · have e0 : i = xs.length := by omega
      subst e0
      rw [List.drop_length, M.lcM_nil] at q'
      refine .inl ⟨stop (Nat.le_refl _), ?_⟩
      have z : VN k F H Rb Q (ys ++ []) c' := q'
      rw [List.append_nil] at z
      exact z D acc F' H' x' w' nDH nD0 hD' f' al)
theorem i_ls {K : PySem.W.Frag} {tl : TE} {m : Γ → M (List α)} (h : SE μ E (rLs Ra) tl m) : SI μ E Ra (iList K tl) m := fun k F H σ ρ c W w e q =>
  h k F H σ ρ c _ w e (wp_imp q fun xs c1 z v F1 H1 x1 w1 ⟨p, vs, ev, hp, al⟩ => ⟨p, ev, ⟨vs, .of (w1.sub _ _ hp)⟩, z _ F1 H1 x1 w1 fun i F' H' s1 s2 => by
    have sq : SqL K H' p vs := .of (s2 _ _ (s1 _ _ hp))
    refine ⟨fun a ha => ?_, fun hi => ⟨vs, sq, by rw [al.len]; exact hi⟩⟩
    obtain ⟨u, hu, r⟩ := al.get ha
    exact ⟨⟨vs, u, sq, hu⟩, fun x H'' ⟨e1, e2⟩ => by
      subst e1
      have := e2 vs sq
      rw [hu] at this
      cases this
      exact ⟨F', ExtX.refl s2, Ra.st s1 r⟩⟩⟩)
theorem i_tup {K : PySem.W.Frag} {tl : TE} {m : Γ → M (List α)} (h : SE μ E (rTup K Ra) tl m) : SI μ E Ra (iTup K tl) m := fun k F H σ ρ c W w e q =>
  h k F H σ ρ c _ w e (wp_imp q fun xs c1 z v F1 H1 x1 w1 ⟨p, vs, ev, hp, al⟩ => ⟨p, ev, ⟨vs, same_seqT w1.sub hp⟩, z _ F1 H1 x1 w1 fun i F' H' s1 s2 => by
    have sq : SqT K H' p vs := same_seqT s2 (same_seqT s1 hp)
    refine ⟨fun a ha => ?_, fun hi => ⟨vs, sq, by rw [al.len]; exact hi⟩⟩
    obtain ⟨u, hu, r⟩ := al.get ha
    exact ⟨⟨vs, u, sq, hu⟩, fun x H'' ⟨e1, e2⟩ => by
      subst e1
      have := e2 vs sq
      rw [hu] at this
      cases this
      exact ⟨F', ExtX.refl s2, Ra.st s1 r⟩⟩⟩)
theorem rng_ex (lo hi : Int) : ∃ l : List Int, l = (List.range (hi - lo).toNat).map fun i : Nat => lo + (i : Int) := ⟨_, rfl⟩
noncomputable def rng (lo hi : Int) : List Int := Classical.choose (rng_ex lo hi)
theorem rng_eq (lo hi : Int) : rng lo hi = (List.range (hi - lo).toNat).map fun i : Nat => lo + (i : Int) := Classical.choose_spec (rng_ex lo hi)
theorem rng_get {lo hi a : Int} {i : Nat} (h : (rng lo hi)[i]? = some a) : i < (hi - lo).toNat ∧ a = lo + (i : Int) := by
  rw [rng_eq] at h
  rw [List.getElem?_map] at h
  cases z : (List.range (hi - lo).toNat)[i]? with
  | none => rw [z] at h; cases h
  | some j =>
    rw [z] at h
    obtain ⟨h1, h2⟩ := List.getElem?_eq_some_iff.mp z
    rw [List.length_range] at h1
    rw [List.getElem_range] at h2
    cases h
    exact ⟨h1, by rw [h2]⟩
theorem rng_walks {F1 : Hp} {lo hi : Int} : Walks (Itr lo (hi - lo).toNat) F1 rInt (rng lo hi) := fun i F' H' s1 s2 =>
  ⟨fun a ha => by
    obtain ⟨h1, h2⟩ := rng_get ha
    exact ⟨h1, fun x H'' ⟨e1, e2⟩ => ⟨F', by rw [e1]; exact ExtX.refl s2, by rw [h2]; exact e2⟩⟩, fun hi => by
    rw [rng_eq, List.length_map, List.length_range] at hi
    exact hi⟩
theorem i_rng1 {ta : TE} {ma : Γ → M Int} (ha : SE μ E rInt ta ma) : SI μ E rInt (iRng1 (tCons ta tNil)) fun ρ => (ma ρ).bind fun a => .need (-(2 ^ 62) ≤ a ∧ a < 2 ^ 62) (.ret (rng 0 a)) := fun k F H σ ρ c W w e h =>
  ha k F H σ ρ c _ w e (wp_imp h fun a c1 ⟨⟨q1, q2⟩, q⟩ v F1 H1 x1 w1 r1 => by
    cases r1
    exact ⟨a, rfl, q1, q2, q _ F1 H1 x1 w1 (by
      have z := rng_walks (F1 := F1) (lo := 0) (hi := a)
      rw [Int.sub_zero] at z
      exact z)⟩)
structure St0 (S : RA α) (n : Nat) (E : EV Γ) (ρ0 : α → Γ) : Prop where
  r : ∀ {p : Option Addr} {H0 F H : Hp} {vs : List V} {a : α}, S.r F vs a → E.r p H0 F H (vs.map some ++ List.replicate n none) (ρ0 a)
  ow : ∀ σ, E.owns σ = []
theorem st_nil : St0 aNil 0 eNil fun _ => () := ⟨fun h => by subst h; rfl, fun _ => rfl⟩
theorem st_un {n : Nat} {ρ0 : Unit → Γ} (h : St0 aNil n E ρ0) : St0 aNil (n + 1) (eCons sUn E) fun a => ((), ρ0 a) := ⟨fun {p H0 F H vs a} z => by
  have z' : vs = [] := z
  subst z'
  exact ⟨none, List.replicate n none, rfl, trivial, h.r (F := F) (vs := []) z⟩, fun σ => by
  cases σ with
  | nil => rfl
  | cons o τ => exact h.ow τ⟩
theorem st_par {S : RA β} {n : Nat} {ρ0 : β → Γ} (h : St0 S n E ρ0) : St0 (aCons Ra S) n (eCons (sVal Ra) E) fun a => (a.1, ρ0 a.2) := ⟨fun ⟨v, ws, e, r, t⟩ => ⟨some v, ws.map some ++ List.replicate n none, by rw [e]; rfl, ⟨v, rfl, r⟩, h.r t⟩, fun σ => by
  cases σ with
  | nil => rfl
  | cons o τ => exact h.ow τ⟩
structure StD (S : RA α) (n : Nat) (E : EV Γ) (ρ0 : α → Γ) : Prop where
  r : ∀ {p : Addr} {H0 F H : Hp} {vs : List V} {a : α}, S.r F vs a → E.r (some p) H0 F H ((.ref p :: vs).map some ++ List.replicate n none) (ρ0 a)
  ow : ∀ σ, E.owns σ = []
theorem start_eq {N : List Str} {vs : List V} {n : Nat} (h : N.length = vs.length + n) : L2.start N vs = vs.map some ++ List.replicate n none := by
  unfold L2.start
  rw [h, Nat.add_sub_cancel_left]
theorem fn_body {S : RA α} {n : Nat} {ρ0 : α → Γ} {N : List Str} {t : TS} {mb : Γ → M (Ct Γ' Unit γ)} (h0 : St0 S n E ρ0) (hn : N.length = S.n + n) (hb : SS md0 E E' eNil R t mb) {vs : List V} {H : Hp} {Q : VK} {X : XK}
    (hs : spOf S R (fun a => (mb (ρ0 a)).fin) vs H Q X) : t { nx := fun _ H' => Q .non H', rt := Q } (L2.start N vs) H := by
  obtain ⟨F, a, s, r, h⟩ := hs
  rw [start_eq (n := n) (by rw [hn, S.len r])]
  refine hb ⟨none, F, H⟩ F H _ (ρ0 a) 0 _ ⟨s, ExtX.refl s, fun _ e => nomatch e⟩ ⟨h0.r r, by rw [h0.ow]; exact List.nodup_nil⟩ ?_
  refine (mb (ρ0 a)).mono 0 (fun t c z => ?_) (fun er z => z.elim) h
  cases t with
  | nx _ => exact z.elim
  | rt b => exact fun v F' H' w r => z v F' H' w.ext r
  | bk _ => exact z.elim
  | ct _ => exact z.elim
theorem spOf_len {S : RA α} {m : α → M γ} {vs : List V} {H : Hp} {Q : VK} {X : XK} (h : spOf S R m vs H Q X) : vs.length = S.n := by
  obtain ⟨F, a, s, r, _⟩ := h
  exact S.len r
end
theorem gt1 {Γ α T0 : Type} {s0 : SR T0} {S : SR α} {E : EV Γ} : GetS (eCons s0 (eCons S E)) 1 S (fun ρ => ρ.2.1) := getS get0
theorem gt2 {Γ α T0 T1 : Type} {s0 : SR T0} {s1 : SR T1} {S : SR α} {E : EV Γ} : GetS (eCons s0 (eCons s1 (eCons S E))) 2 S (fun ρ => ρ.2.2.1) := getS gt1
theorem gt3 {Γ α T0 T1 T2 : Type} {s0 : SR T0} {s1 : SR T1} {s2 : SR T2} {S : SR α} {E : EV Γ} : GetS (eCons s0 (eCons s1 (eCons s2 (eCons S E)))) 3 S (fun ρ => ρ.2.2.2.1) := getS gt2
theorem gt4 {Γ α T0 T1 T2 T3 : Type} {s0 : SR T0} {s1 : SR T1} {s2 : SR T2} {s3 : SR T3} {S : SR α} {E : EV Γ} : GetS (eCons s0 (eCons s1 (eCons s2 (eCons s3 (eCons S E))))) 4 S (fun ρ => ρ.2.2.2.2.1) := getS gt3
theorem gt5 {Γ α T0 T1 T2 T3 T4 : Type} {s0 : SR T0} {s1 : SR T1} {s2 : SR T2} {s3 : SR T3} {s4 : SR T4} {S : SR α} {E : EV Γ} : GetS (eCons s0 (eCons s1 (eCons s2 (eCons s3 (eCons s4 (eCons S E)))))) 5 S (fun ρ => ρ.2.2.2.2.2.1) := getS gt4
theorem gt6 {Γ α T0 T1 T2 T3 T4 T5 : Type} {s0 : SR T0} {s1 : SR T1} {s2 : SR T2} {s3 : SR T3} {s4 : SR T4} {s5 : SR T5} {S : SR α} {E : EV Γ} : GetS (eCons s0 (eCons s1 (eCons s2 (eCons s3 (eCons s4 (eCons s5 (eCons S E))))))) 6 S (fun ρ => ρ.2.2.2.2.2.2.1) := getS gt5
theorem pu1 {Γ α β T0 : Type} {s0 : SR T0} {S : SR α} {S' : SR β} {E : EV Γ} : PutS (eCons s0 (eCons S E)) 1 S' (eCons s0 (eCons S' E)) (fun ρ b => (ρ.1, b, ρ.2.2)) := putS put0
theorem pu2 {Γ α β T0 T1 : Type} {s0 : SR T0} {s1 : SR T1} {S : SR α} {S' : SR β} {E : EV Γ} : PutS (eCons s0 (eCons s1 (eCons S E))) 2 S' (eCons s0 (eCons s1 (eCons S' E))) (fun ρ b => (ρ.1, ρ.2.1, b, ρ.2.2.2)) := putS pu1
theorem pu3 {Γ α β T0 T1 T2 : Type} {s0 : SR T0} {s1 : SR T1} {s2 : SR T2} {S : SR α} {S' : SR β} {E : EV Γ} : PutS (eCons s0 (eCons s1 (eCons s2 (eCons S E)))) 3 S' (eCons s0 (eCons s1 (eCons s2 (eCons S' E)))) (fun ρ b => (ρ.1, ρ.2.1, ρ.2.2.1, b, ρ.2.2.2.2)) := putS pu2
theorem pu4 {Γ α β T0 T1 T2 T3 : Type} {s0 : SR T0} {s1 : SR T1} {s2 : SR T2} {s3 : SR T3} {S : SR α} {S' : SR β} {E : EV Γ} : PutS (eCons s0 (eCons s1 (eCons s2 (eCons s3 (eCons S E))))) 4 S' (eCons s0 (eCons s1 (eCons s2 (eCons s3 (eCons S' E))))) (fun ρ b => (ρ.1, ρ.2.1, ρ.2.2.1, ρ.2.2.2.1, b, ρ.2.2.2.2.2)) := putS pu3
theorem pu5 {Γ α β T0 T1 T2 T3 T4 : Type} {s0 : SR T0} {s1 : SR T1} {s2 : SR T2} {s3 : SR T3} {s4 : SR T4} {S : SR α} {S' : SR β} {E : EV Γ} : PutS (eCons s0 (eCons s1 (eCons s2 (eCons s3 (eCons s4 (eCons S E)))))) 5 S' (eCons s0 (eCons s1 (eCons s2 (eCons s3 (eCons s4 (eCons S' E)))))) (fun ρ b => (ρ.1, ρ.2.1, ρ.2.2.1, ρ.2.2.2.1, ρ.2.2.2.2.1, b, ρ.2.2.2.2.2.2)) := putS pu4
theorem pu6 {Γ α β T0 T1 T2 T3 T4 T5 : Type} {s0 : SR T0} {s1 : SR T1} {s2 : SR T2} {s3 : SR T3} {s4 : SR T4} {s5 : SR T5} {S : SR α} {S' : SR β} {E : EV Γ} : PutS (eCons s0 (eCons s1 (eCons s2 (eCons s3 (eCons s4 (eCons s5 (eCons S E))))))) 6 S' (eCons s0 (eCons s1 (eCons s2 (eCons s3 (eCons s4 (eCons s5 (eCons S' E))))))) (fun ρ b => (ρ.1, ρ.2.1, ρ.2.2.1, ρ.2.2.2.1, ρ.2.2.2.2.1, ρ.2.2.2.2.2.1, b, ρ.2.2.2.2.2.2.2)) := putS pu5
section
variable {Γ Γ' Γ'' Δ α β γ δ : Type} {μ : Md} {E : EV Γ} {E' : EV Γ'} {E'' : EV Γ''} {El : EV Δ} {Ra : Rp α} {Rb : Rp β} {R : Rp γ} {K : PySem.W.Frag}
theorem VP.now {k : Cn} {F H : Hp} {c : Nat} {Q : VK} {v : V} {a : α} (w : Wo k F H c) (q : VP k F H Ra Q a c) (r : Ra.r F v a) : Q v H := q v F H (ExtX.refl w.sub) w r
theorem VP.newT {k : Cn} {F H : Hp} {c : Nat} {Q : VK} {a : α} {p : Addr} {o : HO} (w : Wo k F H c) (q : VP k F H Ra Q a c) (n : H p = none) (r : Same F (upd F p o) → Ra.r (upd F p o) (.ref p) a) : Q (.ref p) (upd H p o) :=
  q _ _ _ (ExtX.new (p := k.p) w.sub n o) (w.new n o) (r (ExtX.new (p := k.p) w.sub n o).fz)
theorem VN.newL {k : Cn} {F H : Hp} {c : Nat} {Q : VK} {xs : List α} {p : Addr} {vs : List V} (w : Wo k F H c) (q : VN k F H Ra Q xs c) (n : H p = none) (r : All2 (Ra.r F) vs xs) : Q (.ref p) (upd H p (.lst vs)) :=
  q p vs _ _ (ExtX.own (p := k.p) w.sub n _) (w.own n _) n (w.h0 n) upd_same (w.sub.free n) r
abbrev a1 (R : Rp α) : RA (α × Unit) := aCons R aNil
abbrev a2 (R : Rp α) (S : Rp β) : RA (α × β × Unit) := aCons R (aCons S aNil)
theorem one {F : Hp} {vs : List V} {a : α × Unit} (h : (a1 Ra).r F vs a) : ∃ v, vs = [v] ∧ Ra.r F v a.1 := by
  obtain ⟨v, ws, e, r, e2⟩ := h
  have e2' : ws = [] := e2
  exact ⟨v, by rw [e, e2'], r⟩
theorem two {F : Hp} {vs : List V} {a : α × β × Unit} (h : (a2 Ra Rb).r F vs a) : ∃ v w, vs = [v, w] ∧ Ra.r F v a.1 ∧ Rb.r F w a.2.1 := by
  obtain ⟨v, ws, e, r, u, us, e1, r2, e2⟩ := h
  have e2' : us = [] := e2
  exact ⟨v, u, by rw [e, e1, e2'], r, r2⟩
theorem int_ls {F H : Hp} {v : V} {xs : List Int} (s : Same F H) (h : (rLs rInt).r F v xs) : ∃ p, v = .ref p ∧ SqL K H p (xs.map V.int) := by
  obtain ⟨p, vs, rfl, hp, al⟩ := h
  exact ⟨p, rfl, .of (by rw [← al.to_map V.int fun _ _ z => z]; exact s _ _ hp)⟩
theorem bl_ls {F H : Hp} {v : V} {xs : List Bool} (s : Same F H) (h : (rLs rBl).r F v xs) : ∃ p, v = .ref p ∧ SqL K H p (xs.map V.bl) := by
  obtain ⟨p, vs, rfl, hp, al⟩ := h
  exact ⟨p, rfl, .of (by rw [← al.to_map V.bl fun _ _ z => z]; exact s _ _ hp)⟩
theorem c_all : CaS μ (rAll K) (a1 (rLs rBl)) rBl fun a => .ret (a.1.all id) := fun k F H c vs a Q w r q => by
  obtain ⟨v, e, r⟩ := one r
  obtain ⟨p, ev, hp⟩ := bl_ls (K := K) w.sub r
  exact ⟨p, a.1, by rw [e, ev], hp, VP.now w q rfl⟩
theorem c_intI : CaS μ (fun xs H Q => (∃ i, xs = [.int i] ∧ Q (.int i) H) ∨ ∃ k, xs = [.bl k] ∧ Q (.int (if k then 1 else 0)) H) (a1 rInt) rInt fun a => .ret a.1 := fun k F H c vs a Q w r q => by
  obtain ⟨v, e, r⟩ := one r
  exact .inl ⟨a.1, by rw [e, r], VP.now w q rfl⟩
theorem c_intB : CaS μ (fun xs H Q => (∃ i, xs = [.int i] ∧ Q (.int i) H) ∨ ∃ k, xs = [.bl k] ∧ Q (.int (if k then 1 else 0)) H) (a1 rBl) rInt fun a => .ret (if a.1 = true then 1 else 0) := fun k F H c vs a Q w r q => by
  obtain ⟨v, e, r⟩ := one r
  exact .inr ⟨a.1, by rw [e, r], VP.now w q rfl⟩
theorem c_listT : CaN μ (fun xs H Q => ∃ p ys, xs = [.ref p] ∧ (SqL K H p ys ∨ SqT K H p ys) ∧ ∀ l, H l = none → Q (.ref l) (upd H l (.lst ys))) (a1 (rTup K Ra)) Ra fun a => .ret a.1 := fun k F H c vs a Q w r q => by
  obtain ⟨v, e, p, ys, ev, hp, al⟩ := one r
  exact ⟨p, ys, by rw [e, ev], .inr (same_seqT w.sub hp), fun l n => VN.newL w q n al⟩
theorem c_tupL : CaS μ (fun xs H Q => ∃ p ys, xs = [.ref p] ∧ ((SqL K H p ys ∧ ∀ l, H l = none → Q (.ref l) (upd H l (.tup ys))) ∨ (SqT K H p ys ∧ Q (.ref p) H))) (a1 (rLs Ra)) (rTup K Ra) fun a => .ret a.1 := fun k F H c vs a Q w r q => by
  obtain ⟨v, e, p, ys, ev, hp, al⟩ := one r
  exact ⟨p, ys, by rw [e, ev], .inl ⟨.of (w.sub _ _ hp), fun l n => VP.newT w q n fun s => ⟨l, ys, rfl, .of upd_same, al.imp fun _ _ g => Ra.st s g⟩⟩⟩
theorem c_repr {d : α → PyData} {n : Nat} (hd : DpR K Ra d n) : CaS μ (rRepr K) (a1 Ra) rStr fun a => .need ((d a.1).showable = true ∧ (d a.1).hasDict = false ∧ (d a.1).shown.length ≤ sizeLine ∧ (d a.1).depth ≤ 64) (.ret (d a.1).shown) := fun k F H c vs a Q w r q => by
  obtain ⟨v, e, r⟩ := one r
  exact ⟨v, d a.1, e, Dp.same w.sub (hd.dp r), q.1.1, q.1.2.1, q.1.2.2.1, q.1.2.2.2, VP.now w q.2 rfl⟩
theorem dp_int : DpR K rInt .int 0 := ⟨fun h => by subst h; exact .int _, fun _ => by simp [PyData.depth]⟩
theorem dp_bl : DpR K rBl .bool 0 := ⟨fun h => by subst h; exact .bl _, fun _ => by simp [PyData.depth]⟩
theorem dp_str : DpR K rStr .str 0 := ⟨fun h => by subst h; exact .str _, fun _ => by simp [PyData.depth]⟩
theorem dp_non : DpR K rNon (fun _ => .none) 0 := ⟨fun h => by subst h; exact .non, fun _ => by simp [PyData.depth]⟩
theorem dps_of {d : α → PyData} {n : Nat} (hd : DpR K Ra d n) {F : Hp} {vs : List V} {xs : List α} (al : All2 (Ra.r F) vs xs) : DpAll K F vs (xs.map d) := by
  induction al with
  | nil => exact .nil
  | cons h _ ih => exact .cons (hd.dp h) ih
theorem deep_all {d : α → PyData} {n : Nat} (h : ∀ a, (d a).depth ≤ n) : ∀ xs : List α, PyData.depthAll (xs.map d) ≤ n
  | [] => by simp [PyData.depthAll]
  | x :: xs => by
    show PyData.depthAll (d x :: xs.map d) ≤ n
    rw [PyData.depthAll]
    exact Nat.max_le.mpr ⟨h x, deep_all h xs⟩
theorem dp_ls {d : α → PyData} {n : Nat} (hd : DpR K Ra d n) : DpR K (rLs Ra) (fun xs => .list (xs.map d)) (n + 1) := ⟨fun ⟨p, vs, e, hp, al⟩ => by subst e; exact .lst (.of hp) (dps_of hd al), fun xs => by rw [PyData.depth]; exact Nat.succ_le_succ (deep_all hd.deep xs)⟩
structure DpA (K : PySem.W.Frag) (S : RA α) (d : α → List PyData) (n : Nat) : Prop where
  dp : ∀ {F : Hp} {vs : List V} {a : α}, S.r F vs a → DpAll K F vs (d a)
  deep : ∀ a, PyData.depthAll (d a) ≤ n
theorem dpa_nil : DpA K aNil (fun _ => []) 0 := ⟨fun h => by subst h; exact .nil, fun _ => by simp [PyData.depthAll]⟩
theorem dpa_cons {d : α → PyData} {ds : β → List PyData} {S : RA β} {n m : Nat} (h : DpR K Ra d n) (hs : DpA K S ds m) : DpA K (aCons Ra S) (fun a => d a.1 :: ds a.2) (max n m) := ⟨fun ⟨v, ws, e, r, t⟩ => by subst e; exact .cons (h.dp r) (hs.dp t), fun a => by
  rw [PyData.depthAll]
  have := h.deep a.1
  have := hs.deep a.2
  omega⟩
theorem dp_tx {S : RA α} {ds : α → List PyData} {n : Nat} (h : DpA K S ds n) : DpR K (rTx K S) (fun a => .tuple (ds a)) (n + 1) := ⟨fun ⟨p, vs, e, hp, r⟩ => by subst e; exact .tup hp (h.dp r), fun a => by rw [PyData.depth]; exact Nat.succ_le_succ (h.deep a)⟩
theorem all2_nil {f : V → α → Prop} {xs : List α} (h : All2 f [] xs) : xs = [] := by cases h; rfl
theorem o_catT : OpS μ (rCatA K) (rTup K Ra) (rTup K Ra) (rTup K Ra) fun xs ys => .need (xs.length + ys.length ≤ sizeLine) (.ret (xs ++ ys)) := fun k F H c x y xs ys Q w r r2 q => by
  have r' := r
  have r2' := r2
  obtain ⟨p, vs, e, hp, al⟩ := r'
  obtain ⟨p2, vs2, e2, hp2, al2⟩ := r2'
  refine ⟨p, p2, vs, vs2, e, e2, same_seqT w.sub hp, same_seqT w.sub hp2, by rw [al.len, al2.len]; exact q.1, fun z => ?_, fun z1 z => ?_, fun z1 z2 l n => VP.newT w q.2 n fun s => ⟨l, _, rfl, .of upd_same, (al.append al2).imp fun _ _ g => Ra.st s g⟩⟩
  · subst z
    rw [← e2]
    refine VP.now w q.2 ?_
    rw [all2_nil al]; exact r2
  · subst z
    rw [← e]
    refine VP.now w q.2 ?_
    rw [all2_nil al2, List.append_nil]; exact r
structure FlR (R : Rp α) [DecidableEq α] : Prop where
  fl : ∀ {F : Hp} {v : V} {a : α}, R.r F v a → flatV v = true
  eq : ∀ {F : Hp} {v w : V} {a b : α}, R.r F v a → R.r F w b → eqV v w = decide (a = b)
end
end PF
set_option maxHeartbeats 400000
namespace PF
open PySem PySem.Spec PyProof.Rows L2 SlX
namespace M
section
variable {α β γ Γ Γ' Δ : Type} {c : Nat} {Q : α → Nat → Prop} {X : Er → Prop}
theorem thn_nx {f : Γ → M (Ct Γ' Δ β)} {ρ : Γ} : thnK f (.nx ρ) = f ρ := id rfl
theorem thn_rt {f : Γ → M (Ct Γ' Δ β)} {b : β} : thnK f (.rt b) = .ret (.rt b) := id rfl
theorem thn_bk {f : Γ → M (Ct Γ' Δ β)} {d : Δ} : thnK f (.bk d) = .ret (.bk d) := id rfl
theorem thn_ct {f : Γ → M (Ct Γ' Δ β)} {d : Δ} : thnK f (.ct d) = .ret (.ct d) := id rfl
theorem fin_rt {b : β} : finK (Γ := Γ) (.rt b) = .ret b := id rfl
theorem finN_rt {b : Unit} : finNK (Γ := Γ) (.rt b) = .ret b := id rfl
theorem finN_nx {ρ : Γ} : finNK (.nx ρ) = .ret () := id rfl
theorem wk {m : M α} {Q Q' : α → Nat → Prop} (h : m.wp c Q X) (k : ∀ a d, Q a d → Q' a d) : m.wp c Q' X := m.mono c k (fun _ z => z) h
def FK (I : Γ → Nat → Prop) (Q : Ct Γ Δ β → Nat → Prop) : Ct Γ Γ β → Nat → Prop
  | .nx ρ, d => I ρ d
  | .ct ρ, d => I ρ d
  | .bk ρ, d => Q (.nx ρ) d
  | .rt b, d => Q (.rt b) d
theorem FK_nx {I : Γ → Nat → Prop} {Q : Ct Γ Δ β → Nat → Prop} {ρ : Γ} {d : Nat} : FK I Q (.nx ρ) d = I ρ d := id rfl
theorem FK_ct {I : Γ → Nat → Prop} {Q : Ct Γ Δ β → Nat → Prop} {ρ : Γ} {d : Nat} : FK I Q (.ct ρ) d = I ρ d := id rfl
theorem FK_bk {I : Γ → Nat → Prop} {Q : Ct Γ Δ β → Nat → Prop} {ρ : Γ} {d : Nat} : FK I Q (.bk ρ) d = Q (.nx ρ) d := id rfl
theorem FK_rt {I : Γ → Nat → Prop} {Q : Ct Γ Δ β → Nat → Prop} {b : β} {d : Nat} : FK I Q (.rt b) d = Q (.rt b) d := id rfl
theorem forM_inv {xs : List α} {f : α → Γ → M (Ct Γ Γ β)} {Q : Ct Γ Δ β → Nat → Prop} (I : Nat → Γ → Nat → Prop) {ρ : Γ} (h0 : I 0 ρ c)
    (hs : ∀ i a ρ c, xs[i]? = some a → I i ρ c → (f a ρ).wp c (fun k d => FK (I (i + 1)) Q k d) X) (hd : ∀ ρ c, I xs.length ρ c → Q (.nx ρ) c) : (M.forM (Δ := Δ) xs f ρ).wp c Q X := by
  induction xs generalizing ρ c I with
  | nil => rw [forM_nil]; exact hd ρ c h0
  | cons x xs ih =>
    rw [forM_cons]
    show (f x ρ).wp c (fun k d => (forK (fun ρ' => M.forM (Δ := Δ) xs f ρ') k).wp d Q X) X
    refine wk (hs 0 x ρ c rfl h0) fun k d z => ?_
    have go : ∀ ρ', I 1 ρ' d → (M.forM (Δ := Δ) xs f ρ').wp d Q X := fun ρ' z => ih (fun i => I (i + 1)) z (fun i a ρ c h => hs (i + 1) a ρ c (by simpa using h)) hd
    cases k with
    | nx ρ' => exact go ρ' z
    | ct ρ' => exact go ρ' z
    | bk ρ' => exact z
    | rt b => exact z
theorem lcM_inv {xs : List α} {f : α → M (Option β)} {Q : List β → Nat → Prop} (I : Nat → List β → Nat → Prop) (h0 : I 0 [] c)
    (hs : ∀ i a ys c, xs[i]? = some a → I i ys c → (f a).wp c (fun o d => I (i + 1) (ys ++ o.toList) d) X) (hd : ∀ ys c, I xs.length ys c → Q ys c) : (M.lcM xs f).wp c Q X := by
  have gen : ∀ (xs : List α) (I : Nat → List β → Nat → Prop) (ys : List β) (c : Nat) (Q : List β → Nat → Prop), I 0 ys c → (∀ i a ys c, xs[i]? = some a → I i ys c → (f a).wp c (fun o d => I (i + 1) (ys ++ o.toList) d) X) →
      (∀ zs c, I xs.length (ys ++ zs) c → Q zs c) → (M.lcM xs f).wp c Q X := by
    intro xs
    induction xs with
    | nil => intro I ys c Q h0 hs hd; rw [lcM_nil]; exact hd [] c (by simpa using h0)
    | cons x xs ih =>
      intro I ys c Q h0 hs hd
      rw [lcM_cons]
      show (f x).wp c (fun o d => (M.lcM xs f).wp d (fun zs e => Q (o.toList ++ zs) e) X) X
      refine wk (hs 0 x ys c rfl h0) fun o d z => ?_
      refine ih (fun i => I (i + 1)) (ys ++ o.toList) d _ z (fun i a ys c h => hs (i + 1) a ys c (by simpa using h)) fun zs e h => ?_
      exact hd _ e (by rw [← List.append_assoc]; exact h)
  exact gen xs I [] c Q h0 hs fun zs c h => hd zs c (by simpa using h)
theorem lcM_map {xs : List α} {f : α → M (Option β)} {g : α → β} {Q : List β → Nat → Prop} (hs : ∀ a ∈ xs, ∀ Q : Option β → Nat → Prop, Q (some (g a)) c → (f a).wp c Q X) (hq : Q (xs.map g) c) : (M.lcM xs f).wp c Q X := by
  refine lcM_inv (fun i ys d => d = c ∧ ys = (xs.take i).map g) ⟨rfl, by simp⟩ (fun i a ys d h ⟨e, ey⟩ => ?_) fun ys d ⟨e, ey⟩ => ?_
  · subst e
    refine hs a (List.mem_of_getElem? h) _ ⟨rfl, ?_⟩
    have hl := (List.getElem?_eq_some_iff.mp h)
    obtain ⟨hl, ha⟩ := hl
    rw [List.take_succ, h, ey]; simp
  · subst e
    rw [List.take_length] at ey
    rw [ey]; exact hq
theorem lcM_filter {xs : List α} {f : α → M (Option β)} {g : α → Option β} {Q : List β → Nat → Prop} (hs : ∀ a ∈ xs, ∀ Q : Option β → Nat → Prop, Q (g a) c → (f a).wp c Q X) (hq : Q (xs.filterMap g) c) : (M.lcM xs f).wp c Q X := by
  refine lcM_inv (fun i ys d => d = c ∧ ys = (xs.take i).filterMap g) ⟨rfl, by simp⟩ (fun i a ys d h ⟨e, ey⟩ => ?_) fun ys d ⟨e, ey⟩ => ?_
  · subst e
    refine hs a (List.mem_of_getElem? h) _ ⟨rfl, ?_⟩
    rw [List.take_succ, h, ey]
    simp only [Option.toList, List.filterMap_append]
    cases e : g a <;> simp [e]
  · subst e
    rw [List.take_length] at ey
    rw [ey]; exact hq
end
end M
theorem rng_len {lo hi : Int} : (rng lo hi).length = (hi - lo).toNat := by rw [rng_eq, List.length_map, List.length_range]
namespace M
def W {α : Type} (m : M α) (c : Nat) (Q : α → Nat → Prop) (X : Er → Prop) : Prop := m.wp c Q X
section
variable {α β γ Γ Γ' Δ : Type} {c : Nat} {Q : α → Nat → Prop} {X : Er → Prop}
theorem to_W {m : M α} : m.wp c Q X = W m c Q X := id rfl
theorem ret_W {a : α} : W (M.ret a) c Q X = Q a c := id rfl
theorem bind_W {m : M β} {f : β → M α} : W (M.bind m f) c Q X = W m c (fun a d => W (f a) d Q X) X := id rfl
theorem need_W {p : Prop} {m : M α} : W (M.need p m) c Q X = (p ∧ W m c Q X) := id rfl
theorem the_W {o : Option α} : W (M.the o) c Q X = ∃ a, o = some a ∧ Q a c := id rfl
theorem ifb_W {b : Bool} {m n : M α} : W (M.ifb b m n) c Q X = if b = true then W m c Q X else W n c Q X := id rfl
theorem anyOf_W {P : α → Prop} : W (M.anyOf P) c Q X = ∀ a, P a → Q a c := id rfl
theorem still_W {m : M α} : W (M.still m) c Q X = W m 0 (fun a _ => Q a c) X := id rfl
theorem roll_W {t : Int} {Q : Int → Nat → Prop} : W (M.roll t) c Q X = (c < 2 ^ 60 ∧ 0 < t ∧ Bd 9000 t ∧ ∀ r, 0 ≤ r → r < t → Q r (c + 1)) := id rfl
theorem pick_W {xs : List α} : W (M.pick xs) c Q X = (c < 2 ^ 60 ∧ 0 < xs.length ∧ xs.length ≤ 1000 ∧ ∀ x ∈ xs, Q x (c + 1)) := id rfl
theorem thn_W {m : M (Ct Γ Δ β)} {f : Γ → M (Ct Γ' Δ β)} {Q : Ct Γ' Δ β → Nat → Prop} : W (M.thn m f) c Q X = W m c (fun k d => W (thnK f k) d Q X) X := id rfl
theorem fin_W {m : M (Ct Γ Unit β)} {Q : β → Nat → Prop} : W (M.fin m) c Q X = W m c (fun k d => W (finK k) d Q X) X := id rfl
theorem finN_W {m : M (Ct Γ Unit Unit)} {Q : Unit → Nat → Prop} : W (M.finN m) c Q X = W m c (fun k d => W (finNK k) d Q X) X := id rfl
theorem none_W : W (M.none : M α) c Q X = False := id rfl
end
end M
end PF
set_option maxHeartbeats 4000000
set_option exponentiation.threshold 20000
namespace PF
open PySem PySem.Spec PyProof.Rows L2 SlX
def spDice (K : PySem.W.Frag) : Sp := fun vs H Q _ => ∃ (a : Addr) (ns : List Int) (s : Int), vs = [.ref a, .int s] ∧ SqL K H a (ns.map V.int) ∧ ns.length ≤ 100 ∧ 0 ≤ s ∧ s ≤ 100 ∧ ∀ p H', Same H H' → H p = none → Dice p H' 0 → Q (.ref p) H'
def spRoll : Sp := fun vs H Q _ => ∃ (p : Addr) (t : Int) (c : Nat), vs = [.ref p, .int t] ∧ Dice p H c ∧ c < 2 ^ 64 ∧ 0 < t ∧ Bd 9000 t ∧ ∀ r H', 0 ≤ r → r < t → SameB p H H' → Dice p H' (c + 1) → Q (.int r) H'
def spPick : Sp := fun vs H Q _ => ∃ (p l : Addr) (xs : List V) (c : Nat), vs = [.ref p, .ref l] ∧ Dice p H c ∧ c < 2 ^ 64 ∧ H l = some (.lst xs) ∧ l ≠ p ∧ 0 < xs.length ∧ xs.length ≤ 1000 ∧ ∀ v H', v ∈ xs → SameB p H H' → Dice p H' (c + 1) → Q v H'
theorem bd_le {i : Int} {n : Nat} (k : Nat) (h : i.natAbs ≤ k) (l : k < 2 ^ n) : Bd n i := Nat.lt_of_le_of_lt h l
theorem bd_mod {i j : Int} {n : Nat} (h : Bd n j) (j0 : 0 < j) : Bd n (i.fmod j) := by
  have e : i.fmod j = i % j := Int.fmod_eq_emod_of_nonneg i (by omega)
  have h1 := Int.emod_nonneg i (show j ≠ 0 by omega)
  have h2 := Int.emod_lt_of_pos i j0
  rw [e]
  exact h.le (by omega)
theorem fmod_range {i j : Int} (j0 : 0 < j) : 0 ≤ i.fmod j ∧ i.fmod j < j := by
  rw [Int.fmod_eq_emod_of_nonneg i (by omega)]
  exact ⟨Int.emod_nonneg i (by omega), Int.emod_lt_of_pos i j0⟩
theorem fdiv_abs {i j : Int} (i0 : 0 ≤ i) (j0 : 0 < j) : 0 ≤ i.fdiv j ∧ (i.fdiv j).natAbs ≤ i.natAbs := by
  rw [Int.fdiv_eq_ediv_of_nonneg i (by omega)]
  have h1 := Int.ediv_nonneg i0 (show 0 ≤ j by omega)
  have h2 := Int.ediv_le_self j i0
  omega
section
variable {P : Program} {w : World} {K : PySem.W.Frag} {mg : Str → Option Value} {base : Heap} {f : Addr} {fd : FuncData}
theorem sc__law_dice : FnScope ["_law_script", "_law_spot", "_law_cell", "_law_left"] ["_law_script", "_law_spot"] (defScope (topS 32)) := ⟨rfl, rfl, rfl, by decide +kernel, rfl, by decide +kernel, by decide +kernel⟩
theorem ok_dice (F : Fun K "_law_dice" "_law_dice" (topS 32) f fd) (fr : Free mg) : FnOk P w K mg base CX0 2 f fd ["_law_script", "_law_spot"] (spDice K) := by
  refine F.ok sc__law_dice (fun vs H Q E ⟨_, _, _, e, _⟩ => by rw [e]; rfl) (fun cdv A outer s H vs Q E hr h => ⟨_, (pss_cons (ps_set (i := 2) sc__law_dice.nd rfl (by first | exact Or.inl rfl | exact Or.inr rfl) (pe_ifExp (pt_cmpR op_lt (pv 1) (pe_callB call_len (by rfl) fr.b_len (by decide +kernel) (pa_cons (pv 0) pa_nil)) (nomark _)) (pe_callTy call_int1 (by rfl) fr.b_int (by decide +kernel) (pa_cons (pe_ix (ix_list : IxR _ (rIxL K)) (pv 0) (pv 1) (fun _ _ => rfl)) pa_nil)) (pe_op op_add (pe_op op_mulX pe_int (pv 1)) pe_int)))
  (pss_cons (ps_set (i := 3) sc__law_dice.nd rfl (by first | exact Or.inl rfl | exact Or.inr rfl) (pe_op op_modN (pe_callB (call_max2 rfl) (by rfl) fr.b_max (by decide +kernel) (pa_cons pe_int (pa_cons (pe_op op_sub (pe_callB call_abs (by rfl) fr.b_abs (by decide +kernel) (pa_cons (pv 2) pa_nil)) (pe_op op_pow pe_int pe_int)) pa_nil))) (pe_op op_mulX (pe_op op_pow pe_int pe_int) (pe_op op_pow pe_int pe_int))))
  (pss_one (ps_ret (pe_lst (pa_cons (pv 3) (pa_cons (pe_op op_add (pe_op op_add (pe_op op_add (pe_op op_mulX (pe_op op_modN (pe_callB call_abs (by rfl) fr.b_abs (by decide +kernel) (pa_cons (pv 2) pa_nil)) pe_int) pe_int) (pe_op op_mulX pe_int (pv 1))) (pe_op op_mulX pe_int (pe_callTy call_int1 (by rfl) fr.b_int (by decide +kernel) (pa_cons (pe_cmpR op_lt (pv 2) pe_int (nomark _)) pa_nil)))) pe_int) (pa_cons pe_int pa_nil)))))))), ?_⟩)
  obtain ⟨a, ns, s, rfl, hS, hl, h0, h100, q⟩ := h
  have bs : Bd 10 s := bd_sm (by omega) (by decide)
  have rest : ∀ c : Int, tSeq (tAsg (tOp (rI (fun _ j => j ≠ 0) fun i j => .int (i.fmod j)) (tCB (fun xs H Q => ∃ i j, xs = [.int i, .int j] ∧ Q (.int (if j > i then j else i)) H) (tCons (tC (.int 0)) (tCons (tOp (rI0 fun i j => .int (i - j)) (tCB (fun xs H Q => ∃ i, xs = [.int i] ∧ Q (.int (if i < 0 then -i else i)) H) (tCons (tVar 2) tNil)) (tOp (rI CPow fun i j => .int (i ^ j.toNat)) (tC (.int 10)) (tC (.int 16)))) tNil)))
      (tOp (rI CMulX fun i j => .int (i * j)) (tOp (rI CPow fun i j => .int (i ^ j.toNat)) (tC (.int 10)) (tC (.int 60))) (tOp (rI CPow fun i j => .int (i ^ j.toNat)) (tC (.int 10)) (tC (.int 60))))) (gName 3))
      (tRet (tLst (tCons (tVar 3) (tCons (tOp (rI0 fun i j => .int (i + j)) (tOp (rI0 fun i j => .int (i + j)) (tOp (rI0 fun i j => .int (i + j)) (tOp (rI CMulX fun i j => .int (i * j)) (tOp (rI (fun _ j => j ≠ 0) fun i j => .int (i.fmod j)) (tCB (fun xs H Q => ∃ i, xs = [.int i] ∧ Q (.int (if i < 0 then -i else i)) H) (tCons (tVar 2) tNil)) (tC (.int 1152921504606846883))) (tC (.int 47)))
        (tOp (rI CMulX fun i j => .int (i * j)) (tC (.int 809)) (tVar 1))) (tOp (rI CMulX fun i j => .int (i * j)) (tC (.int 31)) (tCB (fun xs H Q => (∃ i, xs = [.int i] ∧ Q (.int i) H) ∨ ∃ k, xs = [.bl k] ∧ Q (.int (if k then 1 else 0)) H) (tCons (tOp (rI0 fun i j => .bl (decide (i < j))) (tVar 2) (tC (.int 0))) tNil)))) (tC (.int 7))) (tCons (tC (.int 0)) tNil)))))
      { nx := fun _ H' => Q .non H', rt := Q } [some (.ref a), some (.int s), some (.int c), none] H := fun c => by
    have m1 : Bd 200 ((10 : Int) ^ 60) := bd_le (10 ^ 60) (by decide) (by decide)
    have nz : (10 : Int) ^ 60 * 10 ^ 60 ≠ 0 := by decide
    refine ⟨_, rfl, _, rfl, _, _, rfl, rfl, ⟨by decide, by decide, by decide⟩, _, _, rfl, rfl, _, _, rfl, _, _, rfl, rfl, ⟨by decide, by decide, by decide⟩, _, _, rfl, rfl, ⟨by decide, by decide, by decide⟩, _, _, rfl, rfl, m1.mulx m1 (by decide), _, _, rfl, rfl, nz, ?_⟩
    have km : Bd 61 (((if c < 0 then -c else c) : Int).fmod 1152921504606846883) := bd_mod (bd_le 1152921504606846883 (by decide) (by decide)) (by decide)
    have b47 : Bd 10 47 := bd_sm (by decide) (by decide)
    have b809 : Bd 10 809 := bd_sm (by decide) (by decide)
    have b31 : Bd 10 31 := bd_sm (by decide) (by decide)
    have bk : ∀ k : Bool, Bd 10 (if k then 1 else 0 : Int) := fun k => by cases k <;> exact bd_sm (by decide) (by decide)
    refine ⟨_, rfl, _, rfl, _, rfl, _, _, rfl, rfl, (by decide : (1152921504606846883 : Int) ≠ 0), _, _, rfl, rfl, km.mulx b47 (by decide), _, rfl, _, _, rfl, rfl, b809.mulx bs (by decide), _, _, rfl, rfl, _, rfl, _, _, rfl, rfl, .inr ⟨_, rfl, _, _, rfl, rfl, b31.mulx (bk _) (by decide), _, _, rfl, rfl, _, _, rfl, rfl, ?_⟩⟩
    refine ⟨by show 3 ≤ sizeLine; decide, fun p hp => q p _ (same_upd hp) hp ⟨_, _, _, upd_same, ?_, ?_, ?_, by decide, by decide⟩⟩
    · exact (fmod_range (by decide)).1
    · exact (bd_mod (m1.mul m1) (by decide)).mono (by decide)
    · refine Bd.add (n := 199) ?_ (bd_sm (by decide) (by decide)) rfl
      refine Bd.add (n := 198) ?_ ((b31.mul (bk _)).mono (by decide)) rfl
      exact Bd.add (n := 197) ((km.mul b47).mono (by decide)) ((b809.mul bs).mono (by decide)) rfl
  refine ⟨_, rfl, _, rfl, _, (ns.map V.int).length, rfl, Or.inl ⟨_, hS, rfl⟩, _, _, rfl, rfl, _, rfl, ite_dec (fun c => ?_) fun c => ?_⟩
  · rw [List.length_map] at c
    obtain ⟨j, rfl⟩ : ∃ j : Nat, s = (j : Int) := ⟨s.toNat, by omega⟩
    have hj : j < ns.length := by omega
    have g : (ns.map V.int)[j]? = some (.int ns[j]) := by rw [List.getElem?_map, List.getElem?_eq_getElem hj]; rfl
    exact ⟨_, rfl, _, rfl, a, _, _, _, rfl, rfl, hS, atI_nat g, .inl ⟨_, rfl, rest _⟩⟩
  · have b67 : Bd 10 67 := bd_sm (by decide) (by decide)
    exact ⟨_, rfl, _, _, rfl, rfl, b67.mulx bs (by decide), _, _, rfl, rfl, rest _⟩
theorem sc__law_roll : FnScope ["_law_dice_here", "_law_total", "_law_found", "_law_one", "_law_two"] ["_law_dice_here", "_law_total"] (defScope (topS 33)) := ⟨rfl, rfl, rfl, by decide +kernel, rfl, by decide +kernel, by decide +kernel⟩
theorem ok_roll (F : Fun K "_law_roll" "_law_roll" (topS 33) f fd) (fr : Free mg) : FnOk P w K mg base CX0 2 f fd ["_law_dice_here", "_law_total"] spRoll := by
  refine F.ok sc__law_roll (fun vs H Q E ⟨_, _, _, e, _⟩ => by rw [e]; rfl) (fun cdv A outer s H vs Q E hr h => ⟨_, (pss_cons (ps_if (pt_cmpR op_gt (pe_ix (ix_list : IxR _ (rIxL K)) (pv 0) pe_int (fun _ _ => rfl)) pe_int (nomark _)) (pss_cons (ps_set (i := 2) sc__law_roll.nd rfl (by first | exact Or.inl rfl | exact Or.inr rfl) (pe_op op_modN (pe_callTy call_int1 (by rfl) fr.b_int (by decide +kernel) (pa_cons (pe_ix (ix_list : IxR _ (rIxL K)) (pv 0) pe_int (fun _ _ => rfl)) pa_nil)) (pv 1)))
  (pss_cons (ps_asg (pe_op op_fdivZ (pe_ix (ix_list : IxR _ (rIxL K)) (pv 0) pe_int (fun _ _ => rfl)) (pv 1)) (pg_sub (pv 0) pe_int set_list))
  (pss_one (ps_ret (pv 2))))) pss_nil)
  (pss_cons (ps_asg (pe_op op_add (pe_ix (ix_list : IxR _ (rIxL K)) (pv 0) pe_int (fun _ _ => rfl)) pe_int) (pg_sub (pv 0) pe_int set_list))
  (pss_cons (ps_set (i := 3) sc__law_roll.nd rfl (by first | exact Or.inl rfl | exact Or.inr rfl) (pe_op op_modN (pe_callTy call_int1 (by rfl) fr.b_int (by decide +kernel) (pa_cons (pe_op op_add (pe_ix (ix_list : IxR _ (rIxL K)) (pv 0) pe_int (fun _ _ => rfl)) (pe_op op_mulX pe_int (pe_ix (ix_list : IxR _ (rIxL K)) (pv 0) pe_int (fun _ _ => rfl)))) pa_nil)) pe_int))
  (pss_cons (ps_set (i := 4) sc__law_roll.nd rfl (by first | exact Or.inl rfl | exact Or.inr rfl) (pe_op op_add (pe_op op_mulX (pe_op op_modN (pe_callTy call_int1 (by rfl) fr.b_int (by decide +kernel) (pa_cons (pe_op op_add (pe_op op_mulX (pv 3) (pv 3)) (pe_op op_mulX pe_int (pe_ix (ix_list : IxR _ (rIxL K)) (pv 0) pe_int (fun _ _ => rfl)))) pa_nil)) pe_int) pe_int) (pv 3)))
  (pss_one (ps_ret (pe_op op_modN (pe_callTy call_int1 (by rfl) fr.b_int (by decide +kernel) (pa_cons (pe_op op_fdivZ (pv 4) pe_int) pa_nil)) (pv 1)))))))), ?_⟩)
  obtain ⟨p, t, c, rfl, ⟨d0, d1, d2, hp, p0, b0, b1, p2, l2⟩, hc, t0, bt, q⟩ := h
  have g0 : ∀ x y z : V, atI [x, y, z] 0 = some x := fun x y z => atI_nat (j := 0) rfl
  have g1 : ∀ x y z : V, atI [x, y, z] 1 = some y := fun x y z => atI_nat (j := 1) rfl
  have g2 : ∀ x y z : V, atI [x, y, z] 2 = some z := fun x y z => atI_nat (j := 2) rfl
  refine ⟨_, rfl, p, _, _, _, rfl, rfl, .of hp, g0 _ _ _, _, _, rfl, rfl, _, rfl, ite_dec (fun c0 => ?_) fun c0 => ?_⟩
  · obtain ⟨r1, r2⟩ := fmod_range (i := d0) t0
    obtain ⟨r3, r4⟩ := fdiv_abs p0 t0
    refine ⟨_, rfl, p, _, _, _, rfl, rfl, .of hp, g0 _ _ _, .inl ⟨_, rfl, _, rfl, _, _, rfl, rfl, (by omega : t ≠ 0), _, rfl, p, _, _, _, rfl, rfl, .of hp, g0 _ _ _, _, rfl, _, _, rfl, rfl, bt.dvz (by omega) (Nat.le_refl _), _, rfl, p, _, _, 0, rfl, rfl, hp, rfl, _, rfl, ?_⟩⟩
    refine q _ _ r1 r2 (SameB.refl p H).upd ⟨_, _, _, upd_same, r3, b0.le r4, b1, p2, by omega⟩
  refine ⟨_, rfl, p, _, _, _, rfl, rfl, .of hp, g2 _ _ _, _, _, rfl, rfl, _, rfl, p, _, _, 2, rfl, rfl, hp, rfl, ?_⟩
  have hq : upd H p (.lst ([V.int d0, .int d1, .int d2].set 2 (.int (d2 + 1)))) p = some (.lst [.int d0, .int d1, .int (d2 + 1)]) := upd_same
  generalize hG : upd H p (.lst ([V.int d0, .int d1, .int d2].set 2 (.int (d2 + 1)))) = G at hq ⊢
  have sG : SameB p H G := by rw [← hG]; exact (SameB.refl p H).upd
  have bd2 : Bd 100 (d2 + 1) := bd_le (2 ^ 64) (by omega) (by decide)
  have bk : Bd 26 32452843 := bd_le 32452843 (by decide) (by decide)
  have b97 : Bd 10 97 := bd_sm (by decide) (by decide)
  refine ⟨_, rfl, p, _, _, _, rfl, rfl, .of hq, g1 _ _ _, _, rfl, p, _, _, _, rfl, rfl, .of hq, g2 _ _ _, _, _, rfl, rfl, bk.mulx bd2 (by decide), _, _, rfl, rfl, .inl ⟨_, rfl, _, _, rfl, rfl, (by decide : (2305843009213693951 : Int) ≠ 0), ?_⟩⟩
  have bo := bd_mod (i := d1 + 32452843 * (d2 + 1)) (j := 2305843009213693951) (n := 62) (bd_le 2305843009213693951 (by decide) (by decide)) (by decide)
  have bt2 := fun i : Int => bd_mod (i := i) (j := 2305843009213693921) (n := 62) (bd_le 2305843009213693921 (by decide) (by decide)) (by decide)
  have b7 : Bd 23 7368787 := bd_le 7368787 (by decide) (by decide)
  refine ⟨_, rfl, _, rfl, _, _, rfl, rfl, bo.mulx bo (by decide), _, rfl, p, _, _, _, rfl, rfl, .of hq, g2 _ _ _, _, _, rfl, rfl, b97.mulx bd2 (by decide), _, _, rfl, rfl, .inl ⟨_, rfl, _, _, rfl, rfl, (by decide : (2305843009213693921 : Int) ≠ 0), _, _, rfl, rfl, (bt2 _).mulx b7 (by decide), _, rfl, _, _, rfl, rfl, ?_⟩⟩
  have b6 : Bd 17 65536 := bd_le 65536 (by decide) (by decide)
  refine ⟨_, rfl, _, _, rfl, rfl, b6.dvz (by decide) (by decide), .inl ⟨_, rfl, _, rfl, _, _, rfl, rfl, (by omega : t ≠ 0), ?_⟩⟩
  exact q _ _ (fmod_range t0).1 (fmod_range t0).2 sG ⟨_, _, _, hq, p0, b0, b1, by omega, by omega⟩
theorem sc__law_pick : FnScope ["_law_dice_here", "_law_items"] ["_law_dice_here", "_law_items"] (defScope (topS 34)) := ⟨rfl, rfl, rfl, by decide +kernel, rfl, by decide +kernel, by decide +kernel⟩
theorem ok_pick (F : Fun K "_law_pick" "_law_pick" (topS 34) f fd) (fr : Free mg) (G__law_roll : GD P w K mg base "_law_roll" 2 spRoll) : FnOk P w K mg base CX0 3 f fd ["_law_dice_here", "_law_items"] spPick := by
  refine F.ok sc__law_pick (fun vs H Q E ⟨_, _, _, _, e, _⟩ => by rw [e]; rfl) (fun cdv A outer s H vs Q E hr h => ⟨_, (pss_one (ps_ret (pe_ix (ix_list : IxR _ (rIxL K)) (pv 1) (pe_c1 G__law_roll (hr.mono (by decide)) (pa_cons (pv 0) (pa_cons (pe_callB call_len (by rfl) fr.b_len (by decide +kernel) (pa_cons (pv 1) pa_nil)) pa_nil))) (fun _ _ => rfl)))), ?_⟩)
  obtain ⟨p, l, xs, c, rfl, hd, hc, hl, ne, h0, h1, q⟩ := h
  refine ⟨_, rfl, _, rfl, _, rfl, _, xs.length, rfl, .inl ⟨_, .of hl, rfl⟩, p, _, c, rfl, hd, hc, by omega, bd_le 1000 (by omega) (by decide), fun r H' r0 r1 s1 hd' => ?_⟩
  obtain ⟨j, rfl⟩ : ∃ j : Nat, r = (j : Int) := ⟨r.toNat, by omega⟩
  have hj : j < xs.length := by omega
  exact ⟨l, xs, _, _, rfl, rfl, .of (s1 _ _ ne hl), atI_nat (List.getElem?_eq_getElem hj), q _ _ (List.getElem_mem hj) s1 hd'⟩
end
def frzN (F H H' : Hp) : Hp := fun b => match F b with
  | some o => some o
  | none => match H b with
    | some _ => none
    | none => H' b
theorem frzN_new {F H H' : Hp} {b : Addr} (s : Same F H) (n : H b = none) : frzN F H H' b = H' b := by
  unfold frzN
  rw [s.free n, n]
theorem frz_ext {p : Option Addr} {F H H' : Hp} (s : Same F H) (e : Same H H') : ExtX p F H (frzN F H H') H' := by
  have fz : Same F (frzN F H H') := fun b o h => by unfold frzN; rw [h]
  refine ⟨fz, fun b o h => ?_, fun b o _ _ h => e b o h, fun b h => ?_, fun b h => ?_, fun ta p hp => (ta p hp).go ?_ (fun o z => e p.1 o z) fz⟩
  · unfold frzN at h
    cases z : F b with
    | some u =>
      rw [z] at h
      cases h
      exact e b _ (s b _ z)
    | none =>
      rw [z] at h
      cases y : H b with
      | some u => rw [y] at h; cases h
      | none => rw [y] at h; exact h
  · unfold frzN
    cases z : F b with
    | some u => rfl
    | none =>
      cases y : H b with
      | some u => rfl
      | none => exact absurd y h
  · cases z : H b with
    | none => exact absurd z h
    | some o => rw [e b o z]; simp
  · obtain ⟨h1, ps, h2, _⟩ := ta p hp
    unfold frzN
    rw [h1, h2]
theorem Wo.ext' {k : Cn} {F H F' H' : Hp} {c : Nat} (w : Wo k F H c) (x : ExtX none F H F' H') : ExtX k.p F H F' H' ∧ Wo k F' H' c := w.call x
section
variable {Γ : Type} {α β γ : Type} {μ : Md} {E : EV Γ} {Ra : Rp α} {Rb : Rp β} {R : Rp γ} {K : PySem.W.Frag} {CN CF : Addr}
theorem VP.same {k : Cn} {F H H' : Hp} {c : Nat} {Q : VK} {v : V} {a : α} (w : Wo k F H c) (q : VP k F H Ra Q a c) (e : Same H H') (r : Ra.r (frzN F H H') v a) : Q v H' := by
  obtain ⟨x, w'⟩ := w.call (frz_ext (p := none) w.sub e)
  exact q v _ H' x w' r
theorem AtN.frz {F H H' : Hp} {v : V} {n : Nm} {C : Addr} (h : AtN C H H' v n) (s : Same F H) : At4 C (frzN F H H') v n := by
  obtain ⟨a, dx, rfl, h, n1, n2⟩ := h
  refine ⟨a, dx, rfl, ?_⟩
  rcases h with ⟨_, h2⟩ | ⟨h1, h2⟩
  · cases h2
  · exact .inr ⟨by rw [frzN_new s n1]; exact h1, by rw [frzN_new s n2]; exact h2⟩
def rNum (CN : Addr) : Rp Nm := ⟨fun F v n => At4 CN F v n, fun s h => h.same s⟩
def rNI (CN : Addr) : Rp Nm := ⟨fun F v n => NI CN F v n, fun s h => h.imp (fun h => h.same s) id⟩
theorem NI.same {F H : Hp} {v : V} {n : Nm} (h : NI CN F v n) (s : Same F H) : NI CN H v n := h.imp (fun h => h.same s) id
theorem e_coe {te : TE} {m : Γ → M α} {f : α → β} (h : ∀ {F : Hp} {v : V} {a : α}, Ra.r F v a → Rb.r F v (f a)) (he : SE μ E Ra te m) : SE μ E Rb te fun ρ => (m ρ).bind fun a => .ret (f a) := fun k F H σ ρ c Q w e q =>
  he k F H σ ρ c Q w e (wp_imp q fun a c1 z v F1 H1 x1 w1 r1 => z v F1 H1 x1 w1 (h r1))
theorem coe_num {F : Hp} {v : V} {a : Nm} (h : (rNum CN).r F v a) : (rNI CN).r F v (id a) := .inl h
def Two (a b : Nm) : Prop := Cm a b ∧ Gd 1000 a ∧ Gd 1000 b
theorem o_num {g : Nm → Nm → Nm} {C : Nm → Nm → Prop} : OpS μ (rBin CN (spBin CN g C)) (rNum CN) (rNI CN) (rNum CN) fun a b => .need (Two a b ∧ C a b) (.ret (g a b)) := fun k F H c x y a b Q w hx hy ⟨⟨⟨q1, q2, q3⟩, q4⟩, q⟩ => by
  have hx' : At4 CN H x a := At4.same hx w.sub
  have hy' : NI CN H y b := hy.same w.sub
  refine ⟨?_, ?_, x, y, a, b, rfl, hx', hy', q1, q2, q3, q4, fun v H' s h => VP.same w q s (h.frz w.sub)⟩
  · obtain ⟨p, dx, rfl, k⟩ := hx'; exact ⟨p, dx, _, rfl, k⟩
  · rcases hy' with hy | ⟨i, rfl, _⟩
    · obtain ⟨p, dx, rfl, k⟩ := hy; exact .inl ⟨p, dx, _, rfl, k⟩
    · exact .inr ⟨i, rfl⟩
theorem e_numInt0 {g : Nm → Int} {ta : TE} {ma : Γ → M Nm} (ha : SE md0 E (rNum CN) ta ma) : SE md0 E rInt (tPropSl CN (spInt0 CN g) E0 ta) fun ρ => (ma ρ).bind fun a => .ret (g a) := fun k F H σ ρ c Q w e h =>
  ha k F H σ ρ c _ w e (wp_imp h fun a c1 q v F1 H1 x1 w1 r1 => by
    have r1' : At4 CN H1 v a := At4.same r1 w1.sub
    have r1'' := r1'
    obtain ⟨p, dx, rfl, kk⟩ := r1'
    exact ⟨p, dx, _, rfl, kk, _, a, rfl, r1'', q _ F1 H1 x1 w1 rfl⟩)
def rOdd (K : PySem.W.Frag) (CN : Addr) : Rp Unit := ⟨fun F v _ => ∃ t, (∀ H, Same F H → TyY K H v t) ∧ PySem.W.kitOne K t (.ref CN) = some false ∧ PySem.W.notFirst K CN t = true, fun s ⟨t, h, k⟩ => ⟨t, fun H s' => h H (s.trans s'), k⟩⟩
theorem o_oddEq {K : PySem.W.Frag} : OpS μ (rCmpS K CN false (spEq K CN) E0) (rNum CN) (rOdd K CN) rBl fun _ _ => .ret false := fun k F H c x y a b Q w hx ⟨t, ht, hk, hn⟩ q => by
  have hx' : At4 CN H x a := At4.same hx w.sub
  have hx2 := hx'
  obtain ⟨p, dx, rfl, kk⟩ := hx'
  exact ⟨p, dx, _, t, rfl, kk, ht H w.sub, hn, _, _, a, rfl, hx2, .inr ⟨t, ht H w.sub, hk, _, rfl, VP.now w q rfl⟩⟩
end
theorem bd_log {k : Nat} {i : Int} (h : Bd k i) (k0 : 0 < k) : i.natAbs.log2 < k := by
  by_cases c : i.natAbs = 0
  · rw [c]; exact k0
  · exact (Nat.log2_lt c).mpr h
def underT (b : Int) : Str := if b = 1 then "" else Str.empty ++ "/" ++ toString b
def wholeT (t p r : Int) : Str := Str.empty ++ toString t ++ (if 0 < p then "+" else "" : Str) ++ toString p ++ "r" ++ toString r
def toldT (t p r b : Int) : Str :=
  if p = 0 then Str.empty ++ toString t ++ underT b
  else if t = 0 then Str.empty ++ toString p ++ "r" ++ toString r ++ underT b
  else if b = 1 then wholeT t p r
  else Str.empty ++ "(" ++ wholeT t p r ++ ")" ++ underT b
def spTold : Sp := fun vs H Q _ => ∃ t p r b : Int, vs = [.int t, .int p, .int r, .int b] ∧ Bd 1900 t ∧ Bd 1900 p ∧ Bd 1900 r ∧ Bd 1900 b ∧ Q (.str (toldT t p r b)) H
section
variable {P : Program} {w : World} {K : PySem.W.Frag} {mg : Str → Option Value} {base : Heap} {f CN CF : Addr} {fd : FuncData}
theorem sc_told_number : FnScope ["top", "part", "root", "bottom", "under", "plus", "whole"] ["top", "part", "root", "bottom"] (defScope (topS 18)) := ⟨rfl, rfl, rfl, by decide +kernel, rfl, by decide +kernel, by decide +kernel⟩
theorem ok_told (F : Fun K "told_number" "told_number" (topS 18) f fd) (fr : Free mg) : FnOk P w K mg base CX0 2 f fd ["top", "part", "root", "bottom"] spTold := by
  refine F.ok sc_told_number (fun vs H Q E ⟨_, _, _, _, e, _⟩ => by rw [e]; rfl) (fun cdv A outer s H vs Q E hr h => ⟨_, (pss_cons (ps_set (i := 4) sc_told_number.nd rfl (by first | exact Or.inl rfl | exact Or.inr rfl) (pe_ifExp (pt_cmpR op_eq (pv 3) pe_int (nomark _)) pe_str (pe_joined (PJ.cons pe_str (PJ.cons (pe_fmt (pv 3)) PJ.nil)))))
  (pss_cons (ps_if (pt_cmpR op_eq (pv 1) pe_int (nomark _)) (pss_one (ps_ret (pe_joined (PJ.cons (pe_fmt (pv 0)) (PJ.cons (pe_fmt (pv 4)) PJ.nil))))) pss_nil)
  (pss_cons (ps_if (pt_cmpR op_eq (pv 0) pe_int (nomark _)) (pss_one (ps_ret (pe_joined (PJ.cons (pe_fmt (pv 1)) (PJ.cons pe_str (PJ.cons (pe_fmt (pv 2)) (PJ.cons (pe_fmt (pv 4)) PJ.nil))))))) pss_nil)
  (pss_cons (ps_set (i := 5) sc_told_number.nd rfl (by first | exact Or.inl rfl | exact Or.inr rfl) (pe_ifExp (pt_cmpR op_gt (pv 1) pe_int (nomark _)) pe_str pe_str))
  (pss_cons (ps_set (i := 6) sc_told_number.nd rfl (by first | exact Or.inl rfl | exact Or.inr rfl) (pe_joined (PJ.cons (pe_fmt (pv 0)) (PJ.cons (pe_fmt (pv 5)) (PJ.cons (pe_fmt (pv 1)) (PJ.cons pe_str (PJ.cons (pe_fmt (pv 2)) PJ.nil)))))))
  (pss_one (ps_ret (pe_ifExp (pt_cmpR op_eq (pv 3) pe_int (nomark _)) (pv 6) (pe_joined (PJ.cons pe_str (PJ.cons (pe_fmt (pv 6)) (PJ.cons pe_str (PJ.cons (pe_fmt (pv 4)) PJ.nil))))))))))))), ?_⟩)
  obtain ⟨t, p, r, b, rfl, bt, bp, br, bb, q⟩ := h
  have it : ∀ i : Int, Bd 1900 i → (Str.ofString (toString i)).length ≤ 1901 := fun i h => by
    have e := int_text_length_le (k := 1900) (by decide) (bd_log h (by decide))
    rw [PySem.ofString_length]; exact e
  have lg : ∀ i : Int, Bd 1900 i → i.natAbs.log2 < 1920 := fun i h => Nat.lt_trans (bd_log h (by decide)) (by decide)
  have L := sizeLine_eq
  have l1 := it t bt
  have l2 := it p bp
  have l3 := it r br
  have l4 := it b bb
  have e0 : Str.empty.length = 0 := rfl
  have e1 : (Str.ofString "/").length = 1 := rfl
  have e2 : (Str.ofString "r").length = 1 := rfl
  have e3 : (Str.ofString "(").length = 1 := rfl
  have e4 : (Str.ofString ")").length = 1 := rfl
  have e5 : (Str.ofString "+").length = 1 := rfl
  have e6 : (Str.ofString "").length = 0 := rfl
  have two : ∀ u pl : Str, u = underT b → u.length ≤ 2000 → pl = (if 0 < p then "+" else "" : Str) → pl.length ≤ 1 → p ≠ 0 → t ≠ 0 → tSeq (tAsg (fun σ H Q => tJs [tFmt (tVar 0), tFmt (tVar 5), tFmt (tVar 1), tC (V.str (Str.ofString "r")), tFmt (tVar 2)] Str.empty σ H fun out H1 => Q (V.str out) H1) (gName 6))
      (tRet (tIf (tTest (tOp rEq (tVar 3) (tC (V.int 1)))) (tVar 6) fun σ H Q => tJs [tC (V.str (Str.ofString "(")), tFmt (tVar 6), tC (V.str (Str.ofString ")")), tFmt (tVar 4)] Str.empty σ H fun out H1 => Q (V.str out) H1))
      { nx := fun x H' => Q V.non H', rt := Q } [some (.int t), some (.int p), some (.int r), some (.int b), some (.str u), some (.str pl), none] H := fun u pl hu lu hp lp p0 t0 => by
    have lw : (wholeT t p r).length ≤ 8000 := by
      unfold wholeT
      rw [← hp]
      simp only [Str.length_append, e0, e2]
      omega
    unfold toldT at q
    rw [if_neg p0, if_neg t0] at q
    refine ⟨_, rfl, .inr ⟨_, rfl, lg _ bt, _, rfl, (by simp only [Str.length_append, e0, e1, e2, e3, e4, e5, e6]; omega), _, rfl, .inl ⟨_, rfl, (by omega), _, rfl, (by simp only [Str.length_append, e0, e1, e2, e3, e4, e5, e6]; omega), _, rfl, .inr ⟨_, rfl, lg _ bp, _, rfl, (by simp only [Str.length_append, e0, e1, e2, e3, e4, e5, e6]; omega), _, rfl, (by simp only [Str.length_append, e0, e1, e2, e3, e4, e5, e6]; omega), _, rfl, .inr ⟨_, rfl, lg _ br, _, rfl, (by simp only [Str.length_append, e0, e1, e2, e3, e4, e5, e6]; omega), ?_⟩⟩⟩⟩⟩
    have ew : Str.empty ++ Str.ofString (toString t) ++ pl ++ Str.ofString (toString p) ++ Str.ofString "r" ++ Str.ofString (toString r) = wholeT t p r := by unfold wholeT; rw [← hp]
    rw [ew]
    refine ⟨_, rfl, rfl, _, rfl, ite_dec (fun c => ?_) fun c => ?_⟩
    · rw [if_pos (V.int.inj c)] at q
      exact ⟨_, rfl, q⟩
    · rw [if_neg fun z => c (congrArg V.int z), ← hu] at q
      exact ⟨_, rfl, (by simp only [Str.length_append, e0, e1, e2, e3, e4, e5, e6]; omega), _, rfl, .inl ⟨_, rfl, (by omega), _, rfl, (by simp only [Str.length_append, e0, e1, e2, e3, e4, e5, e6]; omega), _, rfl, (by simp only [Str.length_append, e0, e1, e2, e3, e4, e5, e6]; omega), _, rfl, .inl ⟨_, rfl, (by omega), _, rfl, (by simp only [Str.length_append, e0, e1, e2, e3, e4, e5, e6]; omega), q⟩⟩⟩
  have one : ∀ u : Str, u = underT b → u.length ≤ 2000 → tSeq (tIfS (tTest (tOp rEq (tVar 1) (tC (V.int 0)))) (tRet fun σ H Q => tJs [tFmt (tVar 0), tFmt (tVar 4)] Str.empty σ H fun out H1 => Q (V.str out) H1) tNext)
      (tSeq (tIfS (tTest (tOp rEq (tVar 0) (tC (V.int 0)))) (tRet fun σ H Q => tJs [tFmt (tVar 1), tC (V.str (Str.ofString "r")), tFmt (tVar 2), tFmt (tVar 4)] Str.empty σ H fun out H1 => Q (V.str out) H1) tNext)
      (tSeq (tAsg (tIf (tTest (tOp (rI0 fun i j => V.bl (decide (j < i))) (tVar 1) (tC (V.int 0)))) (tC (V.str (Str.ofString "+"))) (tC (V.str (Str.ofString "")))) (gName 5))
      (tSeq (tAsg (fun σ H Q => tJs [tFmt (tVar 0), tFmt (tVar 5), tFmt (tVar 1), tC (V.str (Str.ofString "r")), tFmt (tVar 2)] Str.empty σ H fun out H1 => Q (V.str out) H1) (gName 6))
      (tRet (tIf (tTest (tOp rEq (tVar 3) (tC (V.int 1)))) (tVar 6) fun σ H Q => tJs [tC (V.str (Str.ofString "(")), tFmt (tVar 6), tC (V.str (Str.ofString ")")), tFmt (tVar 4)] Str.empty σ H fun out H1 => Q (V.str out) H1)))))
      { nx := fun x H' => Q V.non H', rt := Q } [some (.int t), some (.int p), some (.int r), some (.int b), some (.str u), none, none] H := fun u hu lu => by
    refine ⟨_, rfl, rfl, _, rfl, ite_dec (fun c => ?_) fun c => ?_⟩
    · unfold toldT at q
      rw [if_pos (V.int.inj c), ← hu] at q
      exact ⟨_, rfl, .inr ⟨_, rfl, lg _ bt, _, rfl, (by simp only [Str.length_append, e0, e1, e2, e3, e4, e5, e6]; omega), _, rfl, .inl ⟨_, rfl, (by omega), _, rfl, (by simp only [Str.length_append, e0, e1, e2, e3, e4, e5, e6]; omega), q⟩⟩⟩
    refine ⟨_, rfl, rfl, _, rfl, ite_dec (fun c2 => ?_) fun c2 => ?_⟩
    · unfold toldT at q
      rw [if_neg fun z => c (congrArg V.int z), if_pos (V.int.inj c2), ← hu] at q
      exact ⟨_, rfl, .inr ⟨_, rfl, lg _ bp, _, rfl, (by simp only [Str.length_append, e0, e1, e2, e3, e4, e5, e6]; omega), _, rfl, (by simp only [Str.length_append, e0, e1, e2, e3, e4, e5, e6]; omega), _, rfl, .inr ⟨_, rfl, lg _ br, _, rfl, (by simp only [Str.length_append, e0, e1, e2, e3, e4, e5, e6]; omega), _, rfl, .inl ⟨_, rfl, (by omega), _, rfl, (by simp only [Str.length_append, e0, e1, e2, e3, e4, e5, e6]; omega), q⟩⟩⟩⟩
    refine ⟨_, rfl, _, _, rfl, rfl, _, rfl, ite_dec (fun c3 => ?_) fun c3 => ?_⟩
    · exact two u _ hu lu (if_pos c3).symm (by rw [e5]; exact Nat.le_refl 1) (fun z => c (congrArg V.int z)) fun z => c2 (congrArg V.int z)
    · exact two u _ hu lu (if_neg c3).symm (by rw [e6]; exact Nat.zero_le 1) (fun z => c (congrArg V.int z)) fun z => c2 (congrArg V.int z)
  refine ⟨_, rfl, rfl, _, rfl, ite_dec (fun c => ?_) fun c => ?_⟩
  · exact one _ (if_pos (V.int.inj c)).symm (by rw [e6]; exact Nat.zero_le _)
  · exact ⟨_, rfl, (by simp only [Str.length_append, e0, e1, e2, e3, e4, e5, e6]; omega), _, rfl, .inr ⟨_, rfl, lg _ bb, _, rfl, (by simp only [Str.length_append, e0, e1, e2, e3, e4, e5, e6]; omega), one _ (if_neg fun z => c (congrArg V.int z)).symm (by simp only [Str.length_append, e0, e1, e2, e3, e4, e5, e6]; omega)⟩⟩
end
end PF
set_option maxHeartbeats 1000000
namespace PF
open PySem PySem.Spec PyProof.Rows L2 SlX
structure GS (P : Program) (w : World) (K : PySem.W.Frag) (mg : Str → Option Value) (base : Heap) (C : Addr) (k : Nat) (sp : Sp) : Prop where
  ex : ∃ g, PySem.W.findIn K (.ref C) "__str__" = some (some (.ref g)) ∧ PySem.W.isFn K (.ref g) = true ∧ FnR P w K mg base CX0 k g sp
def spStr (CN : Addr) : Sp := fun vs H Q _ => ∃ x a, vs = [x] ∧ At4 CN H x a ∧ Gd 1900 a ∧ Q (.str (toldT a.t a.p a.r a.b)) H
section
variable {P : Program} {w : World} {K : PySem.W.Frag} {mg : Str → Option Value} {base : Heap} {f CN CF : Addr} {fd : FuncData}
theorem sc_Number___str__ : FnScope ["self"] ["self"] (defScope (inClass (topS 21) 18)) := ⟨rfl, rfl, rfl, by decide +kernel, rfl, by decide +kernel, by decide +kernel⟩
theorem ok_str (F : Fun K "__str__" "Number.__str__" (inClass (topS 21) 18) f fd) (fr : Free mg) (T : NTxt K mg CN CF) (G_told_number : GD P w K mg base "told_number" 2 spTold) : FnOk P w K mg base CX0 3 f fd ["self"] (spStr CN) := by
  refine F.ok sc_Number___str__ (fun vs H Q E ⟨_, _, e, _⟩ => by rw [e]; rfl) (fun cdv A outer s H vs Q E hr h => ⟨_, (pss_one (ps_ret (pe_callTy SkE.call_str_str (by rfl) fr.b_str (by decide +kernel) (pa_cons (pe_c1 G_told_number (hr.mono (by decide)) (pa_cons (pe_slC T.cN T.sN_top (pv 0)) (pa_cons (pe_slC T.cN T.sN_part (pv 0)) (pa_cons (pe_slC T.cN T.sN_root (pv 0)) (pa_cons (pe_slC T.cN T.sN_bottom (pv 0)) pa_nil))))) pa_nil)))), ?_⟩)
  obtain ⟨x, a, rfl, ⟨a_self, d_self, rfl, h_self⟩, g, q⟩ := h
  exact ⟨_, rfl, a_self, d_self, _, _, rfl, h_self, rfl, _, rfl, a_self, d_self, _, _, rfl, h_self, rfl, _, rfl, a_self, d_self, _, _, rfl, h_self, rfl, _, rfl, a_self, d_self, _, _, rfl, h_self, rfl, _, _, _, _, rfl, g.t, g.p, g.r.mono (by decide), g.b, _, rfl, q⟩
end
section
variable {Γ : Type} {E : EV Γ} {K : PySem.W.Frag} {mg : Str → Option Value} {CN CF : Addr}
theorem e_mkNum1 {ta : TE} {ma : Γ → M Int} (ha : SE md0 E rInt ta ma) : SE md0 E (rNum CN) (tMake CN (spNumI CN CF) [.int 0, .int 0, .int 1] E0 (tCons ta tNil)) fun ρ => (ma ρ).bind fun i => .ret (mkNm i 0 0 1) := fun k F H σ ρ c Q w e h =>
  ha k F H σ ρ c _ w e (wp_imp h fun i c1 q v F1 H1 x1 w1 r1 => by
    subst r1
    exact num_made (.inr ⟨i, 0, 0, 1, rfl, by decide, .inl ⟨rfl, rfl⟩, bd_sm (by decide) (by decide), rfl⟩) fun v H' s h => VP.same w1 (VP.ext x1 q) s (h.frz w1.sub))
theorem e_mkNum4 {ta tb tr tq : TE} {ma mb mr mq : Γ → M Int} {m : Nat} (ha : SE md0 E rInt ta ma) (hb : SE md0 E rInt tb mb) (hr : SE md0 E rInt tr mr) (hq : SE md0 E rInt tq mq) (hm : 2 = m := by rfl) :
    SE md0 E (rNum CN) (tMakeN CN 2 m (spNumI CN CF) (fun vs zs => vs ++ zs) E0 (tCons ta (tCons tb tNil)) (tCons tr (tCons tq tNil))) fun ρ => (ma ρ).bind fun a => (mb ρ).bind fun b => (mr ρ).bind fun r => (mq ρ).bind fun q => .need (q ≠ 0 ∧ okRoot r b ∧ Bd 9000 q) (.ret (mkNm a b r q)) := fun k F H σ ρ c Q w e h =>
  ha k F H σ ρ c _ w e (wp_imp h fun a c1 q v1 F1 H1 x1 w1 r1 => hb k F1 H1 σ ρ c1 _ w1 (e.step x1) (wp_imp q fun b c2 q v2 F2 H2 x2 w2 r2 => hr k F2 H2 σ ρ c2 _ w2 (e.step (x1.trans x2)) (wp_imp q fun r c3 q v3 F3 H3 x3 w3 r3 => hq k F3 H3 σ ρ c3 _ w3 (e.step ((x1.trans x2).trans x3)) (wp_imp q fun d c4 ⟨⟨q1, q2, q3⟩, q⟩ v4 F4 H4 x4 w4 r4 => by
    subst r1 r2 r3 r4
    exact ⟨rfl, hm, num_made (.inr ⟨a, b, r, d, rfl, q1, q2, q3, rfl⟩) fun v H' s h => VP.same w4 (VP.ext (((x1.trans x2).trans x3).trans x4) q) s (h.frz w4.sub)⟩))))
end
section
variable {κ α β : Type} [DecidableEq κ]
def dput (l : List (κ × α)) (k : κ) (a : α) : List (κ × α) := if (l.any fun p => decide (p.1 = k)) = true then l.map (fun p => if p.1 = k then (p.1, a) else p) else l ++ [(k, a)]
def dget (l : List (κ × α)) (k : κ) : Option α := (l.find? fun p => decide (p.1 = k)).map (·.2)
end
structure KyR {κ : Type} (R : Rp κ) (kf : κ → Key) : Prop where
  v : ∀ {F : Hp} {v : V} {k : κ}, R.r F v k → v = kV (kf k)
  inj : ∀ {a b : κ}, kf a = kf b → a = b
inductive AllD {κ α : Type} (kf : κ → Key) (f : V → α → Prop) : List (Key × V) → List (κ × α) → Prop where
  | nil : AllD kf f [] []
  | cons {v : V} {k : κ} {a : α} {kvs : List (Key × V)} {l : List (κ × α)} (h : f v a) (t : AllD kf f kvs l) : AllD kf f ((kf k, v) :: kvs) ((k, a) :: l)
section
variable {κ α : Type} {kf : κ → Key} {f g : V → α → Prop} {kvs : List (Key × V)} {l : List (κ × α)}
theorem AllD.imp (h : AllD kf f kvs l) (k : ∀ v n, f v n → g v n) : AllD kf g kvs l := by
  induction h with
  | nil => exact .nil
  | cons h _ ih => exact .cons (k _ _ h) ih
theorem AllD.len (h : AllD kf f kvs l) : kvs.length = l.length := by
  induction h with
  | nil => rfl
  | cons h _ ih => rw [List.length_cons, List.length_cons, ih]
theorem AllD.snoc (h : AllD kf f kvs l) {v : V} {k : κ} {a : α} (r : f v a) : AllD kf f (kvs ++ [(kf k, v)]) (l ++ [(k, a)]) := by
  induction h with
  | nil => exact .cons r .nil
  | cons h _ ih => exact .cons h ih
variable [DecidableEq κ]
theorem AllD.any (inj : ∀ {a b : κ}, kf a = kf b → a = b) (h : AllD kf f kvs l) (k : κ) : (kvs.any fun p => decide (p.1 = kf k)) = (l.any fun p => decide (p.1 = k)) := by
  induction h with
  | nil => rfl
  | @cons v k2 a _ _ h _ ih =>
    rw [List.any_cons, List.any_cons, ih]
    by_cases c : k2 = k
    · subst c; simp
    · rw [decide_eq_false fun z => c (inj z), decide_eq_false c]
theorem AllD.repl (inj : ∀ {a b : κ}, kf a = kf b → a = b) (h : AllD kf f kvs l) (k : κ) {v : V} {a : α} (r : f v a) : AllD kf f (kvs.map fun p => if p.1 = kf k then (p.1, v) else p) (l.map fun p => if p.1 = k then (p.1, a) else p) := by
  induction h with
  | nil => exact .nil
  | @cons u k2 b _ _ h _ ih =>
    rw [List.map_cons, List.map_cons]
    by_cases c : k2 = k
    · subst c
      rw [if_pos rfl, if_pos rfl]
      exact .cons r ih
    · rw [if_neg (fun z => c (inj z)), if_neg c]
      exact .cons h ih
theorem AllD.put (inj : ∀ {a b : κ}, kf a = kf b → a = b) (h : AllD kf f kvs l) (k : κ) {v : V} {a : α} (r : f v a) : AllD kf f (putK kvs (kf k) v) (dput l k a) := by
  unfold putK dput
  rw [h.any inj k]
  by_cases c : (l.any fun p => decide (p.1 = k)) = true
  · rw [if_pos c, if_pos c]
    exact h.repl inj k r
  · rw [if_neg c, if_neg c]
    exact h.snoc r
theorem AllD.get (inj : ∀ {a b : κ}, kf a = kf b → a = b) (h : AllD kf f kvs l) (k : κ) : (∃ v a, valV kvs (kf k) = some v ∧ dget l k = some a ∧ f v a) ∨ (valV kvs (kf k) = none ∧ dget l k = none) := by
  induction h with
  | nil => exact .inr ⟨rfl, rfl⟩
  | @cons u k2 b kvs' l' h _ ih =>
    by_cases c : k2 = k
    · subst c
      exact .inl ⟨u, b, valV_pos rfl, by simp [dget], h⟩
    · have e1 : valV ((kf k2, u) :: kvs') (kf k) = valV kvs' (kf k) := valV_neg fun z => c (inj z)
      have e2 : dget ((k2, b) :: l') k = dget l' k := by simp [dget, List.find?_cons, c]
      rw [e1, e2]
      exact ih
end
end PF
set_option maxHeartbeats 3200000
namespace PF
open PySem PySem.Spec PyProof.Rows L2 SlX
def ddS (xs : List Str) : List Str := xs.foldl (fun l x => if x ∈ l then l else l ++ [x]) []
def SetS (P : Program) (w : World) (h : Heap) (a : Addr) (xs : List Str) : Prop := h.SetOf (PySem.strKind P w) a (fun k => decide (k ∈ xs)) (ddS xs).length
theorem SetS.at {P : Program} {w : World} {h h' : Heap} {a : Addr} {xs : List Str} (z : SetS P w h a xs) (k : ∀ o, h.get? a = some o → h'.get? a = some o) : SetS P w h' a xs := by
  obtain ⟨o, es, ep, t, e, r⟩ := z
  exact ⟨o, es, ep, t, k o e, r⟩
end PF
set_option maxHeartbeats 1000000
namespace PF
open PySem PySem.Spec PyProof.Rows L2 SlX
section
variable {Γ α β γ : Type} {μ : Md} {E : EV Γ} {K : PySem.W.Frag} {Ra : Rp α}
structure TyR (K : PySem.W.Frag) (R : Rp α) (t : Value) : Prop where
  ty : ∀ {F H : Hp} {v : V} {a : α}, Same F H → R.r F v a → TyY K H v t
theorem tr_tup : TyR K (rTup K Ra) (.type "tuple") := ⟨fun s ⟨p, vs, e, h, _⟩ => by
  subst e
  rcases same_seqT s h with (h | ⟨o, h⟩) | ⟨o, its, n, h, c, _⟩
  · exact .x (.base (.tup h))
  · exact .x (.fTuple h)
  · exact .x (.kTuple h c)⟩
theorem tr_ls : TyR K (rLs Ra) (.type "list") := ⟨fun s ⟨p, vs, e, h, _⟩ => by subst e; exact .x (.base (.lst (s _ _ h)))⟩
theorem c_isi {t u : Value} {c : V} {b : Bool} (ht : TyR K Ra t) (hc : ClsV c u) (hk : PySem.W.kitOne K t u = some b) {Rc : Rp Unit} (hr : ∀ {F : Hp} {v : V}, Rc.r F v () → v = c) : CaS μ (rIsiU K) (a2 Ra Rc) rBl fun _ => .ret b := fun k F H n vs a Q w r q => by
  obtain ⟨v, x, e, r1, r2⟩ := two r
  exact ⟨v, c, t, u, b, by rw [e, hr r2], hc, ht.ty w.sub r1, hk, VP.now w q rfl⟩
end
structure GQ (P : Program) (w : World) (K : PySem.W.Frag) (mg : Str → Option Value) (base : Heap) (m : String) (C : Addr) (k : Nat) (sp : Sp) : Prop where
  ex : ∃ g, PySem.W.findIn K (.ref C) m = some (some (.ref g)) ∧ PySem.W.isFn K (.ref g) = true ∧ FnR P w K mg base CX0 k g sp
theorem slt_same {F H : Hp} {p C dx : Addr} {vs : List (Option V)} (s : Same F H) (h : Slt F p C dx vs) : Slt H p C dx vs := by
  rcases h with ⟨h, e⟩ | ⟨h, h2⟩
  · exact .inl ⟨s _ _ h, e⟩
  · exact .inr ⟨s _ _ h, s _ _ h2⟩
structure SlR1 {α : Type} (R : Rp α) (C : Addr) : Prop where
  at_ : ∀ {F : Hp} {v : V} {a : α}, R.r F v a → ∃ p dx vs, v = .ref p ∧ Slt F p C dx vs
section
variable {prog : Program} {w : World} {A : Around} {E : Value → Shared → Prop} {s : Shared}
theorem fm_congr {α β : Type} {f g : α → Option β} : ∀ {l : List α}, (∀ x ∈ l, f x = g x) → l.filterMap f = l.filterMap g
  | [], _ => rfl
  | x :: l, h => by
    rw [List.filterMap_cons, List.filterMap_cons, h x (List.mem_cons_self ..), fm_congr fun y hy => h y (List.mem_cons_of_mem _ hy)]
end
section
variable {Γ Γ' Γ'' Δ α β γ δ κ : Type} {μ : Md} {E : EV Γ} {E' : EV Γ'} {El : EV Δ} {Ra : Rp α} {Rb : Rp β} {R : Rp γ} {Rk : Rp κ} {kf : κ → Key} {K : PySem.W.Frag}
structure NnR (R : Rp α) : Prop where
  nn : ∀ {F : Hp} {v : V} {a : α}, R.r F v a → v ≠ .non
theorem e_coeX {te : TE} {m : Γ → M α} {f : α → β} (h : ∀ {F : Hp} {v : V} {a : α}, Ra.r F v a → Rb.r F v (f a)) (he : SE μ E Ra te m) : SE μ E Rb te fun ρ => (m ρ).bind fun a => .ret (f a) := fun k F H σ ρ c Q w e q =>
  he k F H σ ρ c Q w e (wp_imp q fun a c1 z v F1 H1 x1 w1 r1 => z v F1 H1 x1 w1 (h r1))
theorem e_the {te : TE} {m : Γ → M α} {f : α → Option β} (h : ∀ {F : Hp} {v : V} {a : α} {b : β}, Ra.r F v a → f a = some b → Rb.r F v b) (he : SE μ E Ra te m) : SE μ E Rb te fun ρ => (m ρ).bind fun a => .the (f a) := fun k F H σ ρ c Q w e q =>
  he k F H σ ρ c Q w e (wp_imp q fun a c1 ⟨b, eb, z⟩ v F1 H1 x1 w1 r1 => z v F1 H1 x1 w1 (h r1 eb))
end
structure RV (Γ : Type) where
  r : Hp → (Nat → Option (Option V)) → Γ → Prop
  st : ∀ {F F' : Hp} {f : Nat → Option (Option V)} {a : Γ}, Same F F' → r F f a → r F' f a
  cg : ∀ {F : Hp} {f g : Nat → Option (Option V)} {a : Γ}, (∀ i v, f i = some (some v) → g i = some (some v)) → r F f a → r F g a
structure VGet {Γ α : Type} (E : RV Γ) (i : Nat) (R : Rp α) (g : Γ → α) : Prop where
  get : ∀ {F : Hp} {f : Nat → Option (Option V)} {a : Γ}, E.r F f a → ∃ v, f i = some (some v) ∧ R.r F v (g a)
structure VPut {Γ Γ' β : Type} (E : RV Γ) (i : Nat) (R : Rp β) (E' : RV Γ') (put : Γ → β → Γ') : Prop where
  put : ∀ {F : Hp} {f g : Nat → Option (Option V)} {a : Γ} {b : β} {y : V}, E.r F f a → R.r F y b → g i = some (some y) → (∀ j v, j ≠ i → f j = some (some v) → g j = some (some v)) → E'.r F g (put a b)
def SelfAt {Γ : Type} (C : Addr) (U : RV Γ) (p : Option Addr) (H0 F H : Hp) (D dx : Addr) (a : Γ) : Prop :=
  dx ≠ D ∧ F D = none ∧ H0 D = none ∧ H0 dx = none ∧ p ≠ some D ∧ p ≠ some dx ∧
  ∃ vs, U.r F (fun i => vs[i]?) a ∧ ((H D = some (.ins C dx []) ∧ H dx = some (.own D) ∧ F dx = none ∧ vs = []) ∨ (H D = some (SlO D C dx vs) ∧ H dx = some (.xd [])))
structure PlE {Γ : Type} (E : EV Γ) : Prop where
  upd : ∀ {p : Option Addr} {H0 F H : Hp} {σ : L2.St} {ρ : Γ} {D : Addr} {x : HO}, (∃ o, H D = some o ∧ lsty o = false) → E.r p H0 F H σ ρ → E.r p H0 F (L2.upd H D x) σ ρ
  fz : ∀ {p : Option Addr} {H0 F F' H : Hp} {σ : L2.St} {ρ : Γ}, Same F F' → (∀ D, F D = none → F' D ≠ none → ∃ o, H D = some o ∧ lsty o = false) → E.r p H0 F H σ ρ → E.r p H0 F' H σ ρ
theorem SelfAt.slt {Γ : Type} {C : Addr} {U : RV Γ} {p : Option Addr} {H0 F H : Hp} {D dx : Addr} {a : Γ} (h : SelfAt C U p H0 F H D dx a) : ∃ vs, Slt H D C dx vs ∧ U.r F (fun i => vs[i]?) a := by
  obtain ⟨_, _, _, _, _, _, vs, k, h⟩ := h
  rcases h with ⟨h1, _, _, h4⟩ | ⟨h1, h2⟩
  · exact ⟨vs, .inl ⟨h1, h4⟩, k⟩
  · exact ⟨vs, .inr ⟨h1, h2⟩, k⟩
theorem SelfAt.put {Γ Γ' β : Type} {C : Addr} {U : RV Γ} {U' : RV Γ'} {i : Nat} {R : Rp β} {put : Γ → β → Γ'} {k : Cn} {F H : Hp} {c : Nat} {D dx : Addr} {a : Γ} {b : β} {y : V} (hv : VPut U i R U' put) (w : Wo k F H c) (h : SelfAt C U k.p k.H0 F H D dx a) (r : R.r F y b) :
    ∃ vs, Slt H D C dx vs ∧ Wo k F (slH H D C dx (SlX.putS i y vs)) c ∧ SelfAt C U' k.p k.H0 F (slH H D C dx (SlX.putS i y vs)) D dx (put a b) := by
  obtain ⟨n, f, h1, h2, p1, p2, vs, kk, hh⟩ := h
  have kv : U'.r F (fun j => (SlX.putS i y vs)[j]?) (put a b) := hv.put kk r (putS_get i y vs) fun j v nj e => (putS_ne nj).mpr e
  have fin : Wo k F (slH H D C dx (SlX.putS i y vs)) c := by
    rcases hh with ⟨a1, a2, a3, a4⟩ | ⟨a1, a2⟩
    · exact (w.mod (o := .xd []) h2 a3).mod h1 f
    · have e : slH H D C dx (SlX.putS i y vs) = upd H D (SlO D C dx (SlX.putS i y vs)) := by
        funext b'
        unfold slH
        by_cases z : b' = D
        · rw [z, upd_same, upd_same]
        · rw [upd_ne z, upd_ne z]
          by_cases z2 : b' = dx
          · rw [z2, upd_same, a2]
          · rw [upd_ne z2]
      rw [e]; exact w.mod h1 f
  have sl : Slt H D C dx vs := by
    rcases hh with ⟨a1, _, _, a4⟩ | ⟨a1, a2⟩
    · exact .inl ⟨a1, a4⟩
    · exact .inr ⟨a1, a2⟩
  exact ⟨vs, sl, fin, n, f, h1, h2, p1, p2, _, kv, .inr ⟨upd_same, by unfold slH; rw [upd_ne n, upd_same]⟩⟩
theorem PlE.slH {Γ : Type} {E : EV Γ} (h : PlE E) {C : Addr} {p : Option Addr} {H0 F H : Hp} {σ : L2.St} {ρ : Γ} {D dx : Addr} {vs vs' : List (Option V)} (n : dx ≠ D) (sl : Slt H D C dx vs) (hd : ∃ o, H dx = some o ∧ lsty o = false) (k : E.r p H0 F H σ ρ) : E.r p H0 F (SlX.slH H D C dx vs') σ ρ := by
  refine h.upd ?_ (h.upd hd k)
  rw [upd_ne (Ne.symm n)]
  rcases sl with ⟨a1, _⟩ | ⟨a1, _⟩
  · exact ⟨_, a1, rfl⟩
  · exact ⟨_, a1, rfl⟩
section
variable {Γ Γ' Δ α β γ Λ Λ' : Type} {μ : Md} {E : EV Γ} {El : EV Δ} {Rb : Rp β} {R : Rp γ} {A C : Addr} {U : RV Λ} {U' : RV Λ'}
structure SlG (Ro : Rp α) (C : Addr) (i : Nat) (Rb : Rp β) (P : α → β → Prop) : Prop where
  get : ∀ {F : Hp} {v : V} {a : α}, Ro.r F v a → ∃ p dx vs x b, v = .ref p ∧ Slt F p C dx vs ∧ vs[i]? = some (some x) ∧ Rb.r F x b ∧ P a b
theorem e_slot {Ro : Rp α} {i : Nat} {g : α → β} {te : TE} {m : Γ → M α} (hs : SlG Ro C i Rb (fun a b => b = g a)) (h : SE μ E Ro te m) : SE μ E Rb (tSlC C i te) fun ρ => (m ρ).bind fun a => .ret (g a) := fun k F H σ ρ c Q w e q =>
  h k F H σ ρ c _ w e (wp_imp q fun a c1 q v F1 H1 x1 w1 r1 => by
    obtain ⟨p, dx, vs, x, b, ev, sl, ex, r, eb⟩ := hs.get r1
    subst eb
    exact ⟨p, dx, vs, x, ev, slt_same w1.sub sl, ex, q x F1 H1 x1 w1 r⟩)
end
section
variable {Γ Γ' Δ α β γ Λ : Type} {μ : Md} {E : EV Γ} {E' : EV Γ'} {Rb : Rp β} {R : Rp γ} {C : Addr} {U : RV Λ}
structure StI {Λ0 : Type} (C : Addr) (U0 : RV Λ0) (z : Λ0) (S : RA α) (n : Nat) (E : EV Γ) (ρ0 : α → Γ) : Prop where
  v0 : ∀ {F : Hp} {f : Nat → Option (Option V)}, U0.r F f z
  r : St0 S n E ρ0
end
def rCls (C : Addr) : Rp Unit := ⟨fun _ v _ => v = .ref C, fun _ h => h⟩
section
variable {Γ : Type} {α β γ δ Λ : Type} {E : EV Γ} {C : Addr} {U : RV Λ} {Ro : Rp α} {Rb : Rp β} {R : Rp γ} {Rd : Rp δ} {K : PySem.W.Frag}
structure OdT (K : PySem.W.Frag) (C : Addr) : Prop where
  k : ∀ t ∈ (["int", "bool", "str", "NoneType", "list", "tuple", "dict"] : List String), PySem.W.kitOne K (.type t) (.ref C) = some false ∧ PySem.W.notFirst K C (.type t) = true
end
structure GCm (P : Program) (w : World) (K : PySem.W.Frag) (mg : Str → Option Value) (base : Heap) (C : Addr) (m : Str) (k : Nat) (sp : Sp) : Prop where
  ex : ∃ mc p g, ClX.CRead K C mc ∧ ClX.CMet K C mc m p g ∧ FnR P w K mg base CX0 k g sp
def rTyV (t : String) : Rp Unit := ⟨fun _ v _ => v = .ty t, fun _ h => h⟩
theorem e_tyV {Γ : Type} {μ : Md} {E : EV Γ} {t : String} : SE μ E (rTyV t) (tC (.ty t)) fun _ => .ret () := e_c fun _ => rfl
theorem e_clsV {Γ : Type} {μ : Md} {E : EV Γ} {C : Addr} : SE μ E (rCls C) (tC (.ref C)) fun _ => .ret () := e_c fun _ => rfl
section
variable {α β γ : Type} {K : PySem.W.Frag} {Ra : Rp α} {Rb : Rp β}
theorem c_isiT {t : Value} {u : String} {b : Bool} (ht : TyR K Ra t) (hk : PySem.W.kitOne K t (.type u) = some b) : CaS md0 (rIsiU K) (a2 Ra (rTyV u)) rBl fun _ => .ret b := c_isi ht (.ty u) hk fun h => h
end
theorem s_never {Γ Γ' Δ β : Type} {μ : Md} {E : EV Γ} {E' : EV Γ'} {El : EV Δ} {R : Rp β} {t : TS} : SS μ E E' El R t fun _ => M.none := fun k F H σ ρ c D w e h => h.elim
def rD0 : Rp Unit := ⟨fun F v _ => ∃ p, v = .ref p ∧ F p = some (.dK []), fun s ⟨p, e, h⟩ => ⟨p, e, s _ _ h⟩⟩
section
variable {Γ α β γ : Type} {μ : Md} {E : EV Γ} {K : PySem.W.Frag} {Ra : Rp α} {Rb : Rp β}
theorem e_dnew : SE μ E rD0 (fun σ H Q => ∀ d, H d = none → Q (.ref d) (upd H d (.dK []))) fun _ => .ret () := fun k F H σ ρ c Q w e q => fun d n => VP.newT w q n fun _ => ⟨d, rfl, upd_same⟩
theorem tr_d0 : TyR K rD0 (.type "dict") := ⟨fun s ⟨p, e, h⟩ => by subst e; exact .x (.base (.dK (s _ _ h)))⟩
end
structure ItT (K : PySem.W.Frag) (C fi fl : Addr) : Prop where
  it : PySem.W.findIn K (.ref C) "__iter__" = some (some (.ref fi))
  itF : PySem.W.isFn K (.ref fi) = true
  ln : PySem.W.findIn K (.ref C) "__len__" = some (some (.ref fl))
  lnF : PySem.W.isFn K (.ref fl) = true
structure GLs (P : Program) (w : World) (K : PySem.W.Frag) (mg : Str → Option Value) (base : Heap) (C : Addr) (k : Nat) (spI spL : Sp) : Prop where
  ex : ∃ fi fl, ItT K C fi fl ∧ FnR P w K mg base CX0 k fi spI ∧ FnR P w K mg base CX0 k fl spL
end PF
set_option maxHeartbeats 4000000
namespace PF
open PySem PySem.Spec PyProof.Rows L2 SlX
section
variable {Γ : Type} {α β γ : Type} {μ : Md} {E : EV Γ} {Ra : Rp α} {Rb : Rp β} {R : Rp γ} {K : PySem.W.Frag}
theorem e_roll {i : Nat} {g : Γ → Unit} {te : TE} {m : Γ → M Int} (hi : GetS E i sDice g) (he : SE md0 E rInt te m) : SE md0 E rInt (tCall spRoll [] E0 (tCons (tVar i) (tCons te tNil))) fun ρ => (m ρ).bind fun t => M.roll t := fun k F H σ ρ c Q w e h => by
  obtain ⟨o, h1, p, rfl, hp⟩ := hi.get e.r
  refine ⟨.ref p, h1, he k F H σ ρ c _ w e (wp_imp h fun t c1 ⟨q1, q2, q3, q⟩ v F1 H1 x1 w1 r1 => ?_)⟩
  obtain ⟨d1, d0, d2⟩ := w1.dice p hp
  refine ⟨p, t, c1, by rw [r1]; rfl, d2, by omega, q2, q3, fun r H' h1 h2 s d => ?_⟩
  have d2' := d2
  obtain ⟨_, _, _, hd, _⟩ := d2'
  have d' := d
  obtain ⟨_, _, _, hd', _⟩ := d'
  have x2 : ExtX (some p) F1 H1 F1 H' := ⟨Same.refl _, fun b o z => s b o (fun y => by subst y; rw [d1] at z; cases z) (w1.sub b o z), fun b o n _ z => s b o (fun y => n (by rw [y])) z, fun _ _ => rfl, fun b z => by
    by_cases y : b = p
    · subst y; rw [hd']; simp
    · cases zz : H1 b with
      | none => exact absurd zz z
      | some o => rw [s b o y zz]; simp, fun ta p hp => (ta p hp).go (ta p hp).1 (fun o z => s p.1 o ((ta p hp).nd hd rfl) z) (Same.refl _)⟩
  obtain ⟨x3, w3⟩ := w1.callD hp x2 d1 d
  exact q r h1 h2 _ F1 H' (x1.trans x3) w3 rfl
theorem e_pick {i : Nat} {g : Γ → Unit} {tl : TE} {m : Γ → M (List α)} (hi : GetS E i sDice g) (hl : SE md0 E (rLs Ra) tl m) : SE md0 E Ra (tCall spPick [] E0 (tCons (tVar i) (tCons tl tNil))) fun ρ => (m ρ).bind fun t => M.pick t := fun k F H σ ρ c Q w e h => by
  obtain ⟨o, h1, p, rfl, hp⟩ := hi.get e.r
  refine ⟨.ref p, h1, hl k F H σ ρ c _ w e (wp_imp h fun xs c1 ⟨q1, q2, q3, q⟩ v F1 H1 x1 w1 ⟨l, vs, ev, hlF, al⟩ => ?_)⟩
  obtain ⟨d1, d0, d2⟩ := w1.dice p hp
  have len := al.len
  have lp : l ≠ p := fun z => by rw [z, d1] at hlF; cases hlF
  refine ⟨p, l, vs, c1, by rw [ev]; rfl, d2, by omega, w1.sub _ _ hlF, lp, by omega, by omega, fun u H' hu s d => ?_⟩
  have d2' := d2
  obtain ⟨_, _, _, hd, _⟩ := d2'
  have d' := d
  obtain ⟨_, _, _, hd', _⟩ := d'
  have x2 : ExtX (some p) F1 H1 F1 H' := ⟨Same.refl _, fun b o z => s b o (fun y => by subst y; rw [d1] at z; cases z) (w1.sub b o z), fun b o n _ z => s b o (fun y => n (by rw [y])) z, fun _ _ => rfl, fun b z => by
    by_cases y : b = p
    · subst y; rw [hd']; simp
    · cases zz : H1 b with
      | none => exact absurd zz z
      | some o => rw [s b o y zz]; simp, fun ta p hp => (ta p hp).go (ta p hp).1 (fun o z => s p.1 o ((ta p hp).nd hd rfl) z) (Same.refl _)⟩
  obtain ⟨x3, w3⟩ := w1.callD hp x2 d1 d
  obtain ⟨j, hj, ej⟩ := List.getElem_of_mem hu
  have hj2 : j < xs.length := by omega
  obtain ⟨u', hu', r⟩ := al.get (List.getElem?_eq_getElem hj2)
  rw [List.getElem?_eq_getElem hj, ej] at hu'
  cases hu'
  exact q _ (List.getElem_mem hj2) u F1 H' (x1.trans x3) w3 r
end
end PF
set_option maxHeartbeats 1000000
namespace PF
open PySem PySem.Spec PyProof.Rows L2 SlX
section
variable {Γ α β γ : Type} {μ : Md} {E : EV Γ} {Ra : Rp α} {K : PySem.W.Frag}
def SAL (μ : Md) (E : EV Γ) (R : Rp α) (ta : TA) (m : Γ → M (List α)) : Prop := ∀ (k : Cn) (F H : Hp) (σ : L2.St) (ρ : Γ) (c : Nat) (Q : List V → Hp → Prop), Wo k F H c → EI k E F H σ ρ →
  (m ρ).wp c (fun xs c' => ∀ vs F' H', ExtX k.p F H F' H' → Wo k F' H' c' → All2 (R.r F') vs xs → Q vs H') (XP μ k) → ta σ H Q
theorem al_nil : SAL μ E Ra tNil fun _ => .ret [] := fun k F H σ ρ c Q w e h => h [] F H (ExtX.refl w.sub) w .nil
theorem e_tupL {ta : TA} {ma : Γ → M (List α)} (ha : SAL μ E Ra ta ma) : SE μ E (rTup K Ra) (tTup ta) fun ρ => (ma ρ).bind fun xs => .need (xs.length ≤ sizeLine) (.ret xs) := fun k F H σ ρ c Q w e h =>
  ha k F H σ ρ c _ w e (wp_imp h fun xs c1 ⟨hl, q⟩ vs F1 H1 x1 w1 r1 => ⟨by rw [r1.len]; exact hl, fun p np => by
    have x2 := ExtX.new (p := k.p) w1.sub np (.tup vs)
    exact q (.ref p) _ _ (x1.trans x2) (w1.new np _) ⟨p, vs, rfl, .of upd_same, r1.imp fun _ _ g => Ra.st x2.fz g⟩⟩)
end
section
variable {α β κ : Type}
structure ModD {Γ : Type} (E : EV Γ) (i : Nat) (kf : κ → Key) (R : Rp α) (g : Γ → List (κ × α)) (put : Γ → List (κ × α) → Γ) : Prop where
  get : ∀ {p : Option Addr} {H0 F H : Hp} {σ : L2.St} {ρ : Γ}, E.r p H0 F H σ ρ → ∃ D kvs, σ[i]? = some (some (.ref D)) ∧ H D = some (.dK kvs) ∧ AllD kf (R.r F) kvs (g ρ) ∧ D ∈ E.owns σ
  mod : ∀ {p : Option Addr} {H0 F H : Hp} {σ : L2.St} {ρ : Γ} {D : Addr} {kvs : List (Key × V)} {l : List (κ × α)}, E.r p H0 F H σ ρ → (E.owns σ).Nodup → σ[i]? = some (some (.ref D)) → AllD kf (R.r F) kvs l → E.r p H0 F (upd H D (.dK kvs)) σ (put ρ l)
end
section
variable {Γ Γ' Γ'' Δ α β γ δ κ : Type} {μ : Md} {E : EV Γ} {E' : EV Γ'} {E'' : EV Γ''} {El : EV Δ} {Ra : Rp α} {Rb : Rp β} {Rk : Rp κ} {R : Rp γ} {kf : κ → Key} [DecidableEq κ]
structure FzD (E : EV Γ) (i : Nat) (kf : κ → Key) (R : Rp α) (E' : EV Γ') (f : Γ → Γ') : Prop where
  get : ∀ {p : Option Addr} {H0 F H : Hp} {σ : L2.St} {ρ : Γ}, E.r p H0 F H σ ρ → ∃ D kvs, σ[i]? = some (some (.ref D)) ∧ H D = some (.dK kvs) ∧ F D = none ∧ H0 D = none ∧ D ∈ E.owns σ
  put : ∀ {p : Option Addr} {H0 F H : Hp} {σ : L2.St} {ρ : Γ} {D : Addr} {kvs : List (Key × V)} {o : Obj}, E.r p H0 F H σ ρ → (E.owns σ).Nodup → σ[i]? = some (some (.ref D)) → H D = some (.dK kvs) → Same F (upd F D (.frz o (.dK kvs))) → E'.r p H0 (upd F D (.frz o (.dK kvs))) (upd H D (.frz o (.dK kvs))) σ (f ρ)
  ow : ∀ σ, (E'.owns σ).Sublist (E.owns σ)
end
def ddI (ns : List Int) : List Int := PyProof.Rows.firstMet (fun i => ns.getD i 0) ns.length
def tLenSetJ (K : PySem.W.Frag) (ta : TE) : TE := fun σ H Q => ta σ H fun x H1 => ∃ (l : Addr) (ns : List Int), x = .ref l ∧ SqL K H1 l (ns.map V.int) ∧ ns.length ≤ 4000 ∧ Q (.int ((ddI ns).length : Nat)) H1
theorem pe_lenSetJ {X : Cx} {a : Expr} {ta : TE} {p p2 q pos : Pos} (hg : Gl X "len") (hm : X.mg "len" = none) (hg2 : Gl X "set") (hm2 : X.mg "set" = none) (ha : PE X a ta) (hc : X.calm = true := by rfl)
    (na : starEach [a] X.env = (false, eval a X.env) :: starEach [] X.env := by rfl) : PE X (.Call (.Name "len" p) [.Call (.Name "set" p2) [a] [] q] [] pos) (tLenSetJ X.K ta) := by
  refine ⟨fun pins s σ H Q I h => Call_ (ld_blt I hg hm boot_len (PyProof.Rows.callWith_builtin1 (PyProof.Rows.args_cons (Call_ (ld_blt I hg2 hm2 boot_set ?_)) rfl) rfl rfl))⟩
  refine PyProof.Rows.callWith_type1 (PyProof.Rows.args_cons (thn (ha.run pins s σ H _ I h) fun v s1 ⟨x, H1, I1, r1, q1⟩ => PyProof.Rows.args_nil ?_) na) na rfl
  obtain ⟨l, ns, rfl, hq, hl, q1⟩ := q1
  cases r1
  obtain ⟨its, r, pl, hz⟩ := I1.list hq
  have hlen : its.toArray.size = ns.length := by rw [List.size_toArray, ← r.length, List.length_map]
  refine call_set_list (I1.ok.hd hc) pl.isList (by simpa using RZ.intsAre_vals r) (by rw [hlen]; unfold scanBound; omega) fun h' tk hS hk => PyProof.Rows.args_nil ?_
  rw [hlen] at hS
  obtain ⟨o, es, ep, t, ho, hex, hd, _, _, _, hf, hn⟩ := hS
  have hle : (ddI ns).length ≤ ns.length := PyProof.Rows.firstMet_length_le _ _
  have I2 : Inv X pins σ H1 { s1 with heap := h', toks := tk } := I1.kept fun b o e => hk b o (Heap.lt_size e) e
  exact call_len_set ho hex hd hf (by rw [hn]; show (((ddI ns).length : Nat) : Int) < 2 ^ 63; omega) ⟨.int (ddI ns).length, H1, I2.tok _, ⟨_, by rw [hn]; rfl⟩, q1⟩
section
variable {Γ Γ' Γ'' Δ α β γ κ : Type} {μ : Md} {E : EV Γ} {E' : EV Γ'} {El : EV Δ} {Ra : Rp α} {Rb : Rp β} {R : Rp γ} {Rk : Rp κ} {kf : κ → L2.Key} {K : PySem.W.Frag}
theorem e_lenSetJ {ta : TE} {ma : Γ → M (List Int)} (ha : SE μ E (rLs rInt) ta ma) : SE μ E rInt (tLenSetJ K ta) fun ρ => (ma ρ).bind fun xs => .need (xs.length ≤ 4000) (.ret ((ddI xs).length : Int)) := fun k F H σ ρ c Q w e h =>
  ha k F H σ ρ c _ w e (wp_imp h fun xs c1 ⟨ql, q⟩ v F1 H1 x1 w1 r1 => by
    obtain ⟨p, ev, hp⟩ := int_ls (K := K) w1.sub r1
    exact ⟨p, xs, ev, hp, ql, q _ F1 H1 x1 w1 rfl⟩)
end
structure GF (P : Program) (w : World) (K : PySem.W.Frag) (mg : Str → Option Value) (base : Heap) (C : Addr) (k : Nat) (sp : Sp) : Prop where
  ex : ∃ g, PySem.W.findIn K (.ref C) "__str__" = some (some (.ref g)) ∧ PySem.W.isFn K (.ref g) = true ∧ FnR P w K mg base CX0 k g sp
  fm : PySem.W.findIn K (.ref C) "__format__" = some (some (.builtin "object.__format__"))
  ob : PySem.W.mroIn K C (.type "object") = some true
def recK (ks : List Str) (vs : List V) : List (L2.Key × V) := (ks.map Sum.inr).zip vs
inductive RecT : List Str → TA → List (TE × TE) → Prop where
  | nil : RecT [] tNil []
  | cons {k : Str} {ks : List Str} {tv : TE} {t : TA} {trs : List (TE × TE)} (h : RecT ks t trs) : RecT (k :: ks) (tCons tv t) ((tC (.str k), tv) :: trs)
structure GMKg (P : Program) (w : World) (K : PySem.W.Frag) (mg : Str → Option Value) (base : Heap) (x : Str) (C : Addr) (k n : Nat) (ks : List Str) (gV : List V → List V → List V) (sp : Sp) : Prop where
  ex : ∃ f fd ps g, mg x = some (.ref C) ∧ Mk K C f ∧ KBn K fd ps (n + 1) ks g gV ∧ FnOk P w K mg base CX0 k f fd ps sp
theorem pe_mkg {X : Cx} {k n : Nat} {ks : List Str} {sp : Sp} {x : Str} {C : Addr} {gV : List V → List V → List V} {p pos : Pos} {e : Expr} {es : List Expr} {kws : List Keyword} {t tk : TA} (G : GMKg X.prog X.w X.K X.mg X.base x C k n ks gV sp) (hr : Room (k + 1) X.A) (ha : PA X (e :: es) t) (hkw : PK X kws tk) (gl : Gl X x := by rfl)
    (hall : (backToKw pos (keywordEach kws X.env)).all (·.1.isSome) = true := by rfl) (hks : (backToKw pos (keywordEach kws X.env)).filterMap (·.1) = ks := by rfl)
    (hdb : (x == ("__debug__" : Str)) = false := by decide) (he : starEach (e :: es) X.env = (false, eval e X.env) :: starEach es X.env := by rfl)
    (hpl : ((backTo pos (starEach (e :: es) X.env)).any (·.1) || (backToKw pos (keywordEach kws X.env)).any (·.1.isNone)) = false := by rfl) : PE X (.Call (.Name x p) (e :: es) kws pos) (tMakeN C n ks.length sp gV E0 t tk) := by
  obtain ⟨f, fd, ps, g, h1, h2, h3, h4⟩ := G.ex
  exact pe_makeN h2 h4 hr gl h1 h3 pass0 ha hkw hall hks hdb he hpl
def rForm (CF : Addr) : Rp Nm := ⟨fun F v n => At4 CF F v n, fun s h => h.same s⟩
section
variable {Γ Γ' Γ'' Γ3 Γ4 Δ α β γ δ ε κ : Type} {μ : Md} {E : EV Γ} {E' : EV Γ'} {E'' : EV Γ''} {E3 : EV Γ3} {E4 : EV Γ4} {El : EV Δ} {Ra : Rp α} {Rb : Rp β} {R : Rp γ} {Rk : Rp κ} {kf : κ → L2.Key} {K : PySem.W.Frag} {CN CF : Addr}
theorem e_mkNumR {ta tb tr : TE} {ma mb mr : Γ → M Int} {m : Nat} (ha : SE md0 E rInt ta ma) (hb : SE md0 E rInt tb mb) (hr : SE md0 E rInt tr mr) (hm : 1 = m := by rfl) :
    SE md0 E (rNum CN) (tMakeN CN 2 m (spNumI CN CF) (fun vs zs => vs ++ zs ++ [V.int 1]) E0 (tCons ta (tCons tb tNil)) (tCons tr tNil)) fun ρ => (ma ρ).bind fun a => (mb ρ).bind fun b => (mr ρ).bind fun r => .need (okRoot r b) (.ret (mkNm a b r 1)) := fun k F H σ ρ c Q w e h =>
  ha k F H σ ρ c _ w e (wp_imp h fun a c1 q v1 F1 H1 x1 w1 r1 => hb k F1 H1 σ ρ c1 _ w1 (e.step x1) (wp_imp q fun b c2 q v2 F2 H2 x2 w2 r2 => hr k F2 H2 σ ρ c2 _ w2 (e.step (x1.trans x2)) (wp_imp q fun r c3 ⟨q2, q⟩ v3 F3 H3 x3 w3 r3 => by
    subst r1 r2 r3
    exact ⟨rfl, hm, num_made (.inr ⟨a, b, r, 1, rfl, by decide, q2, bd_sm (by decide) (by decide), rfl⟩) fun v H' s h => VP.same w3 (VP.ext ((x1.trans x2).trans x3) q) s (h.frz w3.sub)⟩)))
theorem e_mkForm {ta tb tr tq : TE} {ma mb mr mq : Γ → M Int} (ha : SE md0 E rInt ta ma) (hb : SE md0 E rInt tb mb) (hr : SE md0 E rInt tr mr) (hq : SE md0 E rInt tq mq) :
    SE md0 E (rForm CF) (tMake CF (spFormI CF) [] E0 (tCons ta (tCons tb (tCons tr (tCons tq tNil))))) fun ρ => (ma ρ).bind fun a => (mb ρ).bind fun b => (mr ρ).bind fun r => (mq ρ).bind fun q => .need (q ≠ 0 ∧ Bd 9000 q) (.ret (mkNm a b r q)) := fun k F H σ ρ c Q w e h =>
  ha k F H σ ρ c _ w e (wp_imp h fun a c1 q v1 F1 H1 x1 w1 r1 => hb k F1 H1 σ ρ c1 _ w1 (e.step x1) (wp_imp q fun b c2 q v2 F2 H2 x2 w2 r2 => hr k F2 H2 σ ρ c2 _ w2 (e.step (x1.trans x2)) (wp_imp q fun r c3 q v3 F3 H3 x3 w3 r3 => hq k F3 H3 σ ρ c3 _ w3 (e.step ((x1.trans x2).trans x3)) (wp_imp q fun d c4 ⟨⟨q1, q2⟩, q⟩ v4 F4 H4 x4 w4 r4 x dx nx nd ne => by
    subst r1 r2 r3 r4
    refine ⟨x, dx, a, b, r, d, rfl, ne, .inl ⟨upd_same, rfl⟩, q1, q2, ?_⟩
    exact ⟨rfl, VP.same w4 (VP.ext (((x1.trans x2).trans x3).trans x4) q) (same_made nx nd) (AtN.frz (n := mkNm a b r d) (C := CF) ⟨x, dx, rfl, slH_slt ne, nx, nd⟩ w4.sub)⟩))))
theorem e_mkNumF {ta : TE} {ma : Γ → M Nm} (ha : SE md0 E (rForm CF) ta ma) : SE md0 E (rNum CN) (tMake CN (spNumI CN CF) [.int 0, .int 0, .int 1] E0 (tCons ta tNil)) ma := fun k F H σ ρ c Q w e h =>
  ha k F H σ ρ c _ w e (wp_imp h fun n c1 q v F1 H1 x1 w1 r1 => num_made (.inl ⟨v, rfl, At4.same r1 w1.sub⟩) fun v H' s h => VP.same w1 (VP.ext x1 q) s (h.frz w1.sub))
end
theorem tr_num {K : PySem.W.Frag} {mg : Str → Option Value} {CN CF : Addr} (T : NTxt K mg CN CF) : TyR K (rNum CN) (.ref CN) := ⟨fun s h => (At4.same h s).ty T.cN T.yN⟩
theorem slg_own_root_num {CN : Addr} : SlG (rNum CN) CN 2 rInt (fun a b => b = Nm.r a) := ⟨fun {F v a} ⟨p, dx, e, h⟩ => ⟨p, dx, sl4 a, .int a.r, a.r, e, h, rfl, rfl, rfl⟩⟩
theorem slg_own_top_num {CN : Addr} : SlG (rNum CN) CN 3 rInt (fun a b => b = Nm.t a) := ⟨fun {F v a} ⟨p, dx, e, h⟩ => ⟨p, dx, sl4 a, .int a.t, a.t, e, h, rfl, rfl, rfl⟩⟩
theorem slg_own_part_num {CN : Addr} : SlG (rNum CN) CN 1 rInt (fun a b => b = Nm.p a) := ⟨fun {F v a} ⟨p, dx, e, h⟩ => ⟨p, dx, sl4 a, .int a.p, a.p, e, h, rfl, rfl, rfl⟩⟩
theorem slg_own_bottom_num {CN : Addr} : SlG (rNum CN) CN 0 rInt (fun a b => b = Nm.b a) := ⟨fun {F v a} ⟨p, dx, e, h⟩ => ⟨p, dx, sl4 a, .int a.b, a.b, e, h, rfl, rfl, rfl⟩⟩
section
variable {Γ : Type} {E : EV Γ}
theorem e_isRoot {ta : TE} {ma : Γ → M Int} (ha : SE md0 E rInt ta ma) : SE md0 E rBl (tCall spIsRoot [] E0 (tCons ta tNil)) fun ρ => (ma ρ).bind fun i => .ret (isRootB i) := fun k F H σ ρ c Q w e h =>
  ha k F H σ ρ c _ w e (wp_imp h fun i c1 q v F1 H1 x1 w1 r1 => by
    subst r1
    exact ⟨i, rfl, fun H' s => VP.same w1 (VP.ext x1 q) s rfl⟩)
end
def FnRS (P : Program) (w : World) (K : PySem.W.Frag) (mg : Str → Option Value) (base : Heap) (k : Nat) (f : Addr) (sp : Nat → Sp) : Prop :=
  ∀ (A : Around) (outer : List Env) (s : Shared) (H : Hp) (us : List Value) (vs : List V) (Q : VK) (E : XK), Room k A → Env0 P w K mg base A outer s H → Vals vs us → sp s.heap.objs.size vs H Q E → codeAny (model P w) A (.call (.ref f) ⟨us, []⟩) (CR CX0 outer P w H s Q E) s
structure GIt (P : Program) (w : World) (K : PySem.W.Frag) (mg : Str → Option Value) (base : Heap) (C : Addr) (k : Nat) (sp : Nat → Sp) : Prop where
  ex : ∃ g, PySem.W.findIn K (.ref C) "__iter__" = some (some (.ref g)) ∧ PySem.W.isFn K (.ref g) = true ∧ FnRS P w K mg base k g sp
structure GCo (P : Program) (w : World) (K : PySem.W.Frag) (mg : Str → Option Value) (base : Heap) (C : Addr) (k : Nat) (sp : Sp) : Prop where
  ex : ∃ g, PySem.W.findIn K (.ref C) "__call__" = some (some (.ref g)) ∧ PySem.W.isFn K (.ref g) = true ∧ PySem.W.fnIn K g = true ∧ FnR P w K mg base CX0 k g sp
end PF
namespace PySem.W
open PySem PySem.Calls PyProof.Rows PyProof.V PySem.Spec
end PySem.W
namespace PF
open PySem PySem.Spec PyProof.Rows L2 SlX
theorem AllD.at_ {κ α : Type} {kf : κ → L2.Key} {f : V → α → Prop} {kvs : List (L2.Key × V)} {l : List (κ × α)} (h : AllD kf f kvs l) : ∀ {i : Nat} {k : L2.Key} {v : V}, kvs[i]? = some (k, v) → ∃ k' a, (k', a) ∈ l ∧ k = kf k' ∧ f v a := by
  induction h with
  | nil => intro i k v hv; simp at hv
  | @cons v' k' a kvs l h t ih =>
    intro i k v hv
    cases i with
    | zero =>
      simp only [List.getElem?_cons_zero] at hv
      cases hv
      exact ⟨k', a, List.mem_cons_self .., rfl, h⟩
    | succ i =>
      rw [List.getElem?_cons_succ] at hv
      obtain ⟨k1, a1, m1, e1, r1⟩ := ih hv
      exact ⟨k1, a1, List.mem_cons_of_mem _ m1, e1, r1⟩
inductive RecD {β : Type} (Rb : Rp β) : {α : Type} → List Str → RA α → (α → List (Str × β)) → Prop where
  | nil : RecD Rb [] aNil fun _ => []
  | cons {α : Type} {x : Str} {ks : List Str} {S : RA α} {g : α → List (Str × β)} (h : RecD Rb ks S g) : RecD Rb (x :: ks) (aCons Rb S) fun a => (x, a.1) :: g a.2
theorem RecD.all {β : Type} {Rb : Rp β} {α : Type} {ks : List Str} {S : RA α} {g : α → List (Str × β)} (h : RecD Rb ks S g) {F : Hp} : ∀ {vs : List V} {a : α}, S.r F vs a → AllD Sum.inr (Rb.r F) (recK ks vs) (g a) := by
  induction h with
  | nil => intro vs a r; exact .nil
  | cons h ih =>
    intro vs a r
    obtain ⟨v, vs', rfl, r1, r2⟩ := r
    exact .cons r1 (ih r2)
section
variable {X : Cx} {K : PySem.W.Frag}
theorem call_isiUK (e : X.K = K) : CallR X (.builtin "isinstance") (rIsiU K) := by rw [← e]; exact call_isiU
end
end PF
namespace RZ3
open PySem PySem.Spec PyProof.Rows L2
end RZ3
namespace PF
open PySem PySem.Spec PyProof.Rows L2 SlX
section
variable {Γ α β γ : Type} {E : EV Γ} {Ra : Rp α} {Rb : Rp β} {K : PySem.W.Frag}
theorem s_never0 {Δ δ : Type} {μ : Md} {El : EV Δ} {R : Rp δ} {t : TS} : SS μ E E El R t fun _ => M.none := fun k F H σ ρ c D w e h => h.elim
end
def lx0 {β : Type} (xs : List β) : Option Unit := if xs.isEmpty then some () else none
def lxS {β α : Type} (g : List β → Option α) : List β → Option (β × α)
  | [] => none
  | x :: xs => (g xs).map fun a => (x, a)
inductive LxD {β : Type} (Rb : Rp β) : {α : Type} → RA α → (List β → Option α) → Prop where
  | nil : LxD Rb aNil lx0
  | cons {α : Type} {S : RA α} {g : List β → Option α} (h : LxD Rb S g) : LxD Rb (aCons Rb S) (lxS g)
theorem LxD.all {β : Type} {Rb : Rp β} {α : Type} {S : RA α} {g : List β → Option α} (h : LxD Rb S g) {F : Hp} : ∀ {vs : List V} {xs : List β} {a : α}, All2 (Rb.r F) vs xs → g xs = some a → S.r F vs a := by
  induction h with
  | nil =>
    intro vs xs a al e
    cases al with
    | nil => rfl
    | cons _ _ => simp [lx0] at e
  | cons h ih =>
    intro vs xs a al e
    cases al with
    | nil => cases e
    | cons r t =>
      obtain ⟨b, eb, ea⟩ := Option.map_eq_some_iff.mp e
      subst ea
      exact ⟨_, _, rfl, r, ih t eb⟩
structure ModR {Γ α : Type} (E : EV Γ) (i : Nat) (ks : List Str) (S : RA α) (g : Γ → α) (put : Γ → α → Γ) : Prop where
  get : ∀ {p : Option Addr} {H0 F H : Hp} {σ : L2.St} {ρ : Γ}, E.r p H0 F H σ ρ → ∃ D vs, σ[i]? = some (some (.ref D)) ∧ H D = some (.dK (recK ks vs)) ∧ S.r F vs (g ρ) ∧ D ∈ E.owns σ
  mod : ∀ {p : Option Addr} {H0 F H : Hp} {σ : L2.St} {ρ : Γ} {D : Addr} {vs : List V} {a : α}, E.r p H0 F H σ ρ → (E.owns σ).Nodup → σ[i]? = some (some (.ref D)) → S.r F vs a → E.r p H0 F (upd H D (.dK (recK ks vs))) σ (put ρ a)
structure RSet {α β : Type} (S : RA α) (j : Nat) (R : Rp β) (st : α → β → α) : Prop where
  set : ∀ {F : Hp} {vs : List V} {a : α} {v : V} {b : β}, S.r F vs a → R.r F v b → S.r F (vs.set j v) (st a b)
structure FzR {Γ Γ' α : Type} (E : EV Γ) (i : Nat) (ks : List Str) (S : RA α) (E' : EV Γ') (f : Γ → Γ') : Prop where
  get : ∀ {p : Option Addr} {H0 F H : Hp} {σ : L2.St} {ρ : Γ}, E.r p H0 F H σ ρ → ∃ D vs, σ[i]? = some (some (.ref D)) ∧ H D = some (.dK (recK ks vs)) ∧ F D = none ∧ H0 D = none ∧ D ∈ E.owns σ
  put : ∀ {p : Option Addr} {H0 F H : Hp} {σ : L2.St} {ρ : Γ} {D : Addr} {vs : List V} {o : Obj}, E.r p H0 F H σ ρ → (E.owns σ).Nodup → σ[i]? = some (some (.ref D)) → H D = some (.dK (recK ks vs)) → Same F (upd F D (.frz o (.dK (recK ks vs)))) → E'.r p H0 (upd F D (.frz o (.dK (recK ks vs)))) (upd H D (.frz o (.dK (recK ks vs)))) σ (f ρ)
  ow : ∀ σ, (E'.owns σ).Sublist (E.owns σ)
end PF
namespace PySem.W
open PySem PySem.Calls PyProof.Rows PyProof.V PySem.Spec
end PySem.W
namespace PF
open PySem PySem.Spec PyProof.Rows L2 SlX
end PF
set_option maxHeartbeats 400000
namespace PF
open PySem PySem.Spec PyProof.Rows L2 SlX
theorem walk_tail {Γ : Type} {E : EV Γ} {ρ0 : Γ} {t : TS} {mb : Γ → M (Ct Unit Unit Bool)} (hb : SS md0 E eNil eNil rBl t mb) {σ : L2.St} {H : Hp} {D : Ends} (he : EI ⟨none, fun _ => none, H⟩ E (fun _ => none) H σ ρ0) (hw : ∀ m, M.fin (mb ρ0) = m → m.wp 0 (fun b _ => b = true) (fun _ => False)) (hD : ∀ H', D.rt (.bl true) H') : t D σ H := by
  refine hb ⟨none, fun _ => none, H⟩ (fun _ => none) H σ ρ0 0 D ⟨(fun _ _ z => nomatch z), ExtX.refl (fun _ _ z => nomatch z), (fun _ e => nomatch e)⟩ he ?_
  refine (mb ρ0).mono 0 (fun t c z => ?_) (fun er z => z.elim) (hw _ rfl)
  cases t with
  | nx _ => exact z.elim
  | rt b =>
    intro v F' H' w r
    have z : b = true := z
    have r : v = .bl b := r
    rw [r, z]
    exact hD H'
  | bk _ => exact z.elim
  | ct _ => exact z.elim
theorem len_succ {α : Type} {τ : List α} {n : Nat} (h : τ.length = n + 1) : ∃ o τ', τ = o :: τ' ∧ τ'.length = n := by
  cases τ with
  | nil => cases h
  | cons o τ => exact ⟨o, τ, rfl, Nat.succ.inj h⟩
theorem ints_all {F : Hp} : ∀ ns : List Int, All2 (rInt.r F) (ns.map V.int) ns
  | [] => .nil
  | n :: ns => .cons rfl (ints_all ns)
theorem ints_of {F : Hp} : ∀ {vs : List V} {ns : List Int}, All2 (rInt.r F) vs ns → vs = ns.map V.int
  | _, _, .nil => rfl
  | _, _, .cons h t => by rw [List.map_cons, ← ints_of t]; congr 1
def AtV (v : V) (d : PyData) : Prop := (v = .non ∧ d = .none) ∨ (∃ b, v = .bl b ∧ d = .bool b) ∨ (∃ i, v = .int i ∧ d = .int i) ∨ (∃ x, v = .str x ∧ d = .str x)
theorem AtV.reads {h : Heap} {v : V} {d : PyData} {u : Value} (a : AtV v d) (r : RelV v u) : Reads h u d [] := by
  rcases a with ⟨rfl, rfl⟩ | ⟨b, rfl, rfl⟩ | ⟨i, rfl, rfl⟩ | ⟨x, rfl, rfl⟩
  · obtain rfl : u = Value.none := r
    exact .none
  · obtain rfl : u = Value.bool b := r
    exact .bool b
  · obtain ⟨t, rfl⟩ : ∃ t, u = Value.int i t := r
    exact .int i t
  · obtain ⟨t, rfl⟩ : ∃ t, u = Value.str x t := r
    exact .str x t
section
variable {μ : Md} {K : PySem.W.Frag} {α κ : Type} {Ra : Rp α}
structure AtR (R : Rp α) (d : α → PyData) : Prop where
  at_ : ∀ {F : Hp} {v : V} {a : α}, R.r F v a → AtV v (d a)
end
end PF
set_option maxHeartbeats 1000000
namespace GQ
open PySem PySem.SeqAt
open AutoSeq1 (wpAny_loadPart')
open MeetsSeq MeetsSeq2 MeetsSeq3 SeqRoads2
end GQ
namespace PF
open PySem PySem.Spec PyProof.Rows L2 SlX
end PF
set_option maxHeartbeats 4000000
namespace PF
open PySem PySem.Spec PyProof.Rows L2 SlX
namespace M
variable {α β : Type}
def safe (m : M α) : M α := ⟨fun c Q _ => m.wp c Q fun _ => False, fun c _ _ _ _ h _ k => m.mono c h (fun _ z => z) k⟩
def tryM (m : M α) (h : Er → M α) : M α := ⟨fun c Q X => m.wp c Q fun e => (h e).wp c Q X, fun c _ _ _ _ f g k => m.mono c f (fun e z => (h e).mono c f g z) k⟩
def byE (ys ns : List Str) (m : M α) (n : Er → M α) (e : Er) : M α := ⟨fun c Q X => (e.cls ∈ ys ∧ m.wp c Q X) ∨ (e.cls ∈ ns ∧ (n e).wp c Q X), fun c _ _ _ _ f g k => k.imp (fun z => ⟨z.1, m.mono c f g z.2⟩) fun z => ⟨z.1, (n e).mono c f g z.2⟩⟩
end M
structure GX (K : PySem.W.Frag) (mg : Str → Option Value) (x : Str) (C : Addr) : Prop where
  ex : PySem.W.excIn K C [.type "ValueError", .type "Exception", .type "BaseException", .type "object"] "ValueError.__new__" = true
  gl : mg x = some (.ref C)
  kp : PySem.W.keepIn K (.ref C) = true
  sb : PySem.W.subIn K (.ref C) (.type "BaseException") = some true
  ty : PySem.W.typeIn K (.ref C) = some (.type "type")
structure GR (P : Program) (w : World) (K : PySem.W.Frag) (mg : Str → Option Value) (base : Heap) (x : Str) (k : Nat) (sp : Sp) : Prop where
  ex : ∃ f fd ps, mg x = some (.ref f) ∧ PySem.W.keepIn K (.ref f) = true ∧ Binds K fd ps [] ∧ FnOk P w K mg base (L2.CX P w) k f fd ps sp
section
variable {X : Cx} {k m : Nat} {sp : Sp} {x : Str} {p pos : Pos} {e : Expr} {es : List Expr} {t : TA} {W : WX} {C : Addr}
theorem pe_cX (tk : Takes X W) (G : GR X.prog X.w X.K X.mg X.base x k sp) (hr : Room k X.A) (ha : PA X (e :: es) t) (gl : Gl X x := by rfl) (hdb : (x == ("__debug__" : Str)) = false := by decide)
    (he : starEach (e :: es) X.env = (false, eval e X.env) :: starEach es X.env := by rfl) (hpl : (backTo pos (starEach es X.env)).any (·.1) = false := by rfl) : PE X (.Call (.Name x p) (e :: es) [] pos) (tCallS sp (WE W) t) := by
  obtain ⟨f, fd, ps, h1, h2, h3, h4⟩ := G.ex
  exact pe_callS h4 hr gl h1 h2 h3 (fun σ => passAt tk σ) ha hdb he hpl
def tRaise (W : WX) (C : Addr) : TS := fun _ σ H => W (.ref C) none σ H
theorem ps_raiseX {m : Str} {j : Nat} {p2 pos' : Pos} (tk : Takes X W) (G : GX X.K X.mg x C) (hc : X.calm = true := by rfl) (hg : Gl X x := by rfl) (hdb : (x == ("__debug__" : Str)) = false := by decide) : PS X (.Raise (some (.Call (.Name x p) [.Constant (.str m) j p2] [] pos)) none pos') (tRaise W C) :=
  ps_raise hc tk (pmk_own PySem.F.excBase_ValueError G.ex G.gl G.kp (raises_own G.sb G.ty) hg hdb)
end
section
variable {Γ Γ' Γ'' Δ Δ' α β γ δ : Type} {μ : Md} {E : EV Γ} {E' : EV Γ'} {E'' : EV Γ''} {El : EV Δ} {El' : EV Δ'} {Ra : Rp α} {Rb : Rp β} {R : Rp γ} {mg : Str → Option Value} {XE : XK}
theorem se_safe {te : TE} {m : Γ → M α} (h : SE md0 E Ra te m) : SE μ E Ra te fun ρ => (m ρ).safe := fun k F H σ ρ c Q w e q => h k F H σ ρ c Q w e ((m ρ).mono c (fun _ _ z => z) (fun _ z => z.elim) q)
theorem st_safe {tt : TT} {m : Γ → M Bool} (h : ST md0 E tt m) : ST μ E tt fun ρ => (m ρ).safe := fun k F H σ ρ c Q w e q => h k F H σ ρ c Q w e ((m ρ).mono c (fun _ _ z => z) (fun _ z => z.elim) q)
theorem sa_safe {S : RA α} {ta : TA} {m : Γ → M α} (h : SA md0 E S ta m) : SA μ E S ta fun ρ => (m ρ).safe := fun k F H σ ρ c Q w e q => h k F H σ ρ c Q w e ((m ρ).mono c (fun _ _ z => z) (fun _ z => z.elim) q)
theorem ss_safe {ts : TS} {m : Γ → M (Ct Γ' Δ γ)} (h : SS md0 E E' El R ts m) : SS μ E E' El R ts fun ρ => (m ρ).safe := fun k F H σ ρ c D w e q => h k F H σ ρ c D w e ((m ρ).mono c (fun _ _ z => z) (fun _ z => z.elim) q)
structure PlX (E : EV Γ) (E' : EV Γ') (f : Γ → Γ') : Prop where
  r : ∀ {p : Option Addr} {H0 F H : Hp} {σ : L2.St} {ρ : Γ}, E.r p H0 F H σ ρ → E'.r none H F H σ (f ρ)
  ow : ∀ σ, E'.owns σ = []
inductive Exm (mg : Str → Option Value) (K : PySem.W.Frag) (D : Value) (b : Bool) : List Str → Prop
  | nil : Exm mg K D b []
  | cons {x : Str} {C : Addr} {xs : List Str} (g : mg x = some (.ref C)) (h : PySem.W.exmOne K (.ref C) D = some b) (t : Exm mg K D b xs) : Exm mg K D b (x :: xs)
theorem Exm.at {K : PySem.W.Frag} {D : Value} {b : Bool} {xs : List Str} (h : Exm mg K D b xs) {x : Str} (i : x ∈ xs) {cls : Value} (g : mg x = some cls) : PySem.W.exmOne K cls D = some b := by
  induction h with
  | nil => cases i
  | cons g' h' _ ih =>
    rcases List.mem_cons.mp i with rfl | i
    · rw [g'] at g; cases g; exact h'
    · exact ih i
end
end PF
namespace PEI
open PySem PySem.W PySem.Calls PyProof.Rows
structure TailB (B newId i : String) (bm : List Value) : Prop where
  exc : ExcBaseFacts B newId i bm
  kx : KxsFacts B i
  st : StoreFacts B bm "object.__setattr__" "object"
  along : ∀ K : Frag, alongIn K "__init__" bm = some (some (.builtin i))
structure InitC (P : Program) (K : Frag) (C fI cc cda : Addr) (newId i : String) (bm : List Value) (qual vn fld : Str) (params : Arguments) (body : List Stmt) (scope : Scope) (kV doc pm ct : Value) (an : Option Addr) : Prop where
  cls : ∃ bo nm q N bs sn sub ab col dd k0 k1 k2 k3 k5, K.lookup C = some (excClassObj nm q C N bs bo true sn sub ab col dd k0 k1 k2 k3 k5 newId) ∧ (∀ X : String, bo.contains (.type X) = bm.contains (.type X)) ∧ alongIn K "__init__" bo = some (some (.builtin i))
  fn : ∃ oc od osl, K.lookup fI = some ⟨oc, od, .func (ksFn "__init__" qual params body scope .none kV doc pm an (.ref cda) ct cc), osl⟩
  code : codeIn K (.ref cda) qual = true
  cell : ∃ cl cld csl, K.lookup cc = some ⟨cl, cld, .cell (some (.ref C)), csl⟩
  file : ∃ ccl cdd vs ccs tf, K.lookup cda = some ⟨ccl, cdd, .fields vs, ccs⟩ ∧ vs[2]? = some (.str P.main.file tf)
  top : (P.main.scope.names.lookup ("super" : Str)).isSome = false
  st : nsIn K cStatics "thirdparty.any" = some none
  sa : findIn K (.ref C) "__setattr__" = some (some (.builtin "object.__setattr__"))
  nofld : findIn K (.ref C) fld = some none
  over : excOver K C bm = true
end PEI
namespace L2
open PySem PySem.Spec PyProof.Rows
structure ErrC (P : Program) (K : PySem.W.Frag) (C fI cc cda : Addr) (newId i : String) (bm : List Value) (qual vn fld : Str) (params : Arguments) (body : List Stmt) (scope : Scope) (kV doc pm ct : Value) (an : Option Addr) : Prop extends PEI.InitC P K C fI cc cda newId i bm qual vn fld params body scope kV doc pm ct an where
  exC : PySem.W.subIn K (.ref C) (.type "BaseException") = some true
  tyC : PySem.W.typeIn K (.ref C) = some (.type "type")
  kC : PySem.W.keepIn K (.ref C) = true
  iC : PySem.W.findIn K (.ref C) "__init__" = some (some (.ref fI))
  tI : PySem.W.typeIn K (.ref fI) = some (.type "function")
structure InitT (qual vn fld msg : Str) (params : Arguments) (body : List Stmt) (scope : Scope) (p0 p1 p2 p3 pe p5 p6 p7 p8 pc : Pos) (j : Nat) (pl : Sem Bool) : Prop where
  body_ : body = [.Expr (.Call (.Attribute (.Call (.Name "super" p0) [] [] p1) "__init__" p2) [.Constant (.str msg) j pc] [] p3) pe, .Assign [.Attribute (.Name "self" p5) fld p6] (.Name vn p7) p8]
  ks : scope.names.lookup ("super" : Str) = some .globalImplicit
  kc : scope.names.lookup ("__class__" : Str) = some .free
  ka : scope.names.lookup ("self" : Str) = some .local
  kv : scope.names.lookup vn = some .local
  kind : scope.kind = .function
  nocell : ∀ x ∈ scope.names, x.2 ≠ .cell
  co : scope.isCoroutine = false
  gen : scope.isGenerator = false
  ne : vn ≠ "self"
  dbg : (vn == ("__debug__" : Str)) = false
  par : (params.posonlyargs ++ params.args).head?.map (·.arg) = some ("self" : Str)
  ev : ∀ (L fI cc : Addr) (cdv : Value), eval (.Call (.Attribute (.Call (.Name "super" p0) [] [] p1) "__init__" p2) [.Constant (.str msg) j pc] [] p3) (PySem.W.ksEnv qual scope L fI cdv cc) = (do
      let ov ← attributeBase (.Call (.Name "super" p0) [] [] p1) "__init__" (PySem.W.ksEnv qual scope L fI cdv cc) (eval (.Call (.Name "super" p0) [] [] p1) (PySem.W.ksEnv qual scope L fI cdv cc))
      standAt p2.atName
      let (f, first) ← holding [ov] (getMethod ov "__init__" pl)
      callWith p3 f first (backTo p3 (starEach [.Constant (.str msg) j pc] (PySem.W.ksEnv qual scope L fI cdv cc))) [])
  int : ∀ (L fI cc : Addr) (cdv : Value), interactive (PySem.W.ksEnv qual scope L fI cdv cc) = false
  sw : ∀ (L fI cc : Addr) (cdv : Value), swapsWith (.Call (.Attribute (.Call (.Name "super" p0) [] [] p1) "__init__" p2) [.Constant (.str msg) j pc] [] p3) none pe.line (PySem.W.ksEnv qual scope L fI cdv cc) = pure false
  sw2 : ∀ (L fI cc : Addr) (cdv : Value), swapsWith (.Name vn p7) (some (.Attribute (.Name "self" p5) fld p6)) p8.line (PySem.W.ksEnv qual scope L fI cdv cc) = pure false
  bind : ∀ (kV doc pm cdv ct a u : Value) (an : Option Addr) (cc : Addr), bindArgs (PySem.W.ksFn "__init__" qual params body scope .none kV doc pm an cdv ct cc) ⟨[a, u], []⟩ = pure ([(("self" : Str), a), (vn, u)] : List (Str × Value))
end L2
set_option maxHeartbeats 1000000
namespace PF
open PySem PySem.Spec PyProof.Rows L2 SlX
def DpE (K : PySem.W.Frag) (F : Hp) (v : V) (d : PyData) : Prop := Dp K F v d ∨ (d = .dict [] ∧ rD0.r F v ())
theorem DpE.st {K : PySem.W.Frag} {F F' : Hp} {v : V} {d : PyData} (s : Same F F') (h : DpE K F v d) : DpE K F' v d := h.imp (fun h => dp_same s _ _ h) fun h => ⟨h.1, rD0.st s h.2⟩
theorem DpE.dp {K : PySem.W.Frag} {F : Hp} {v : V} {d : PyData} (h : DpE K F v d) (n : d ≠ .dict []) : Dp K F v d := h.resolve_right fun z => n z.1
def rDt (K : PySem.W.Frag) : Rp PyData := ⟨fun F v d => DpE K F v d, fun s h => DpE.st s h⟩
def ZD (K : PySem.W.Frag) (f : Option Str) (F : Hp) (v : PyData) (d : Option Addr) : Prop := match f with
  | none => d = none
  | some f => ∃ a y, d = some a ∧ F a = some (.xd [(f, y)]) ∧ DpE K F y v
theorem ZD.st {K : PySem.W.Frag} {f : Option Str} {F F' : Hp} {v : PyData} {d : Option Addr} (s : Same F F') (h : ZD K f F v d) : ZD K f F' v d := by
  cases f with
  | none => exact h
  | some f =>
    obtain ⟨a, y, e, g, t⟩ := h
    exact ⟨a, y, e, s _ _ g, t.st s⟩
def ZE (K : PySem.W.Frag) (mg : Str → Option Value) (fl : Str → Option Str) (F : Hp) (e : Er) (cls : Value) (d : Option Addr) : Prop := mg e.cls = some cls ∧ ZD K (fl e.cls) F e.val d
theorem ZE.st {K : PySem.W.Frag} {mg : Str → Option Value} {fl : Str → Option Str} {F F' : Hp} {e : Er} {cls : Value} {d : Option Addr} (s : Same F F') (h : ZE K mg fl F e cls d) : ZE K mg fl F' e cls d := ⟨h.1, h.2.st s⟩
def mdF (K : PySem.W.Frag) (mg : Str → Option Value) (fl : Str → Option Str) (E : XK) : Md := ⟨ZE K mg fl, E⟩
structure GErr (P : Program) (K : PySem.W.Frag) (mg : Str → Option Value) (x f : Str) (C : Addr) : Prop where
  ex : ∃ B newId i bm fI cc cda qual vn msg params body scope kV doc pm ct an p0 p1 p2 p3 pe p5 p6 p7 p8 pc j pl, PEI.TailB B newId i bm ∧ ErrC P K C fI cc cda newId i bm qual vn f params body scope kV doc pm ct an ∧ InitT qual vn f msg params body scope p0 p1 p2 p3 pe p5 p6 p7 p8 pc j pl
  gl : mg x = some (.ref C)
  sup : mg "super" = none
  xf : XfC K C
  nof : PySem.W.findIn K (.ref C) f = some none
def spOfF {α β : Type} (K : PySem.W.Frag) (mg : Str → Option Value) (fl : Str → Option Str) (S : RA α) (R : Rp β) (m : α → M β) : Sp := fun vs H Q X => ∃ F a, Same F H ∧ S.r F vs a ∧
  (m a).wp 0 (fun b _ => ∀ v F' H', ExtX none F H F' H' → R.r F' v b → Q v H') (fun e => ∀ cls d F' H', ExtX none F H F' H' → ZE K mg fl F' e cls d → X cls d H')
section
variable {Γ Γ' Γ'' Δ Δ' α β γ δ : Type} {μ : Md} {E : EV Γ} {E' : EV Γ'} {E'' : EV Γ''} {El : EV Δ} {El' : EV Δ'} {Ra : Rp α} {Rb : Rp β} {R : Rp γ} {mg : Str → Option Value} {fl : Str → Option Str} {XE : XK} {K : PySem.W.Frag}
theorem spOfF_len {S : RA α} {m : α → M γ} {vs : List V} {H : Hp} {Q : VK} {X : XK} (h : spOfF K mg fl S R m vs H Q X) : vs.length = S.n := by
  obtain ⟨F, a, s, r, _⟩ := h
  exact S.len r
theorem s_raiseN {x : Str} {C : Addr} {W : WX} (g : mg x = some (.ref C)) (hf : fl x = none) (hW : ∀ {p : Option Addr} {H0 F H : Hp} {σ : L2.St} {ρ : Γ}, E.r p H0 F H σ ρ → WE W σ = XE) : SS (mdF K mg fl XE) E E' El R (tRaise W C) fun _ => M.raise ⟨x, .none⟩ := fun k F H σ ρ c D w e h => by
  have z : XE (.ref C) none H := h (.ref C) none F H w.ext ⟨g, by show ZD K (fl x) F .none none; rw [hf]; rfl⟩
  rw [← hW e.r] at z
  exact z
theorem e_callF {S : RA α} {ta : TA} {ma : Γ → M α} {m : α → M γ} {W : WX} (hW : ∀ {p : Option Addr} {H0 F H : Hp} {σ : L2.St} {ρ : Γ}, E.r p H0 F H σ ρ → WE W σ = XE) (ha : SA (mdF K mg fl XE) E S ta ma) : SE (mdF K mg fl XE) E R (tCallS (spOfF K mg fl S R m) (WE W) ta) fun ρ => (ma ρ).bind fun a => (m a).still := fun k F H σ ρ c Q w e h =>
  ha k F H σ ρ c _ w e (wp_imp h fun a c1 q vs F1 H1 x1 w1 r1 => by
    show spOfF K mg fl S R m vs H1 Q (WE W σ)
    rw [hW e.r]
    exact ⟨F1, a, w1.sub, r1, (m a).mono 0 (fun b _ z v F' H' x r => z v F' H' (x1.trans (w1.call x).1) (w1.call x).2 r) (fun er z cls d F' H' x hc => z cls d F' H' (w1.ext.trans (w1.call x).1) hc) q⟩)
theorem fn_bodyF {S : RA α} {n : Nat} {ρ0 : α → Γ} {N : List Str} {t : TS} {mb : Γ → M (Ct Γ' Unit γ)} {vs : List V} {H : Hp} {Q : VK} {X : XK} (h0 : St0 S n E ρ0) (hn : N.length = S.n + n) (hb : SS (mdF K mg fl X) E E' eNil R t mb)
    (hs : spOfF K mg fl S R (fun a => (mb (ρ0 a)).fin) vs H Q X) : t { nx := fun _ H' => Q .non H', rt := Q } (L2.start N vs) H := by
  obtain ⟨F, a, s, r, h⟩ := hs
  rw [start_eq (n := n) (by rw [hn, S.len r])]
  refine hb ⟨none, F, H⟩ F H _ (ρ0 a) 0 _ ⟨s, ExtX.refl s, fun _ e => nomatch e⟩ ⟨h0.r r, by rw [h0.ow]; exact List.nodup_nil⟩ ?_
  refine (mb (ρ0 a)).mono 0 (fun t c z => ?_) (fun er z cls d F' H' x hc => z cls d F' H' x hc) h
  cases t with
  | nx _ => exact z.elim
  | rt b => exact fun v F' H' w r => z v F' H' w.ext r
  | bk _ => exact z.elim
  | ct _ => exact z.elim
theorem fn_bodyNF {S : RA α} {n : Nat} {ρ0 : α → Γ} {N : List Str} {t : TS} {mb : Γ → M (Ct Γ' Unit Unit)} {vs : List V} {H : Hp} {Q : VK} {X : XK} (h0 : St0 S n E ρ0) (hn : N.length = S.n + n) (hb : SS (mdF K mg fl X) E E' eNil rNon t mb)
    (hs : spOfF K mg fl S rNon (fun a => (mb (ρ0 a)).finN) vs H Q X) : t { nx := fun _ H' => Q .non H', rt := Q } (L2.start N vs) H := by
  obtain ⟨F, a, s, r, h⟩ := hs
  rw [start_eq (n := n) (by rw [hn, S.len r])]
  refine hb ⟨none, F, H⟩ F H _ (ρ0 a) 0 _ ⟨s, ExtX.refl s, fun _ e => nomatch e⟩ ⟨h0.r r, by rw [h0.ow]; exact List.nodup_nil⟩ ?_
  refine (mb (ρ0 a)).mono 0 (fun t c z => ?_) (fun er z cls d F' H' x hc => z cls d F' H' x hc) h
  cases t with
  | nx _ => exact fun F' H' σ' _ w _ => z .non F' H' w.ext rfl
  | rt b => exact fun v F' H' w r => z v F' H' w.ext r
  | bk _ => exact z.elim
  | ct _ => exact z.elim
def SETF (K : PySem.W.Frag) (mg : Str → Option Value) (fl : Str → Option Str) (E : EV Γ) (R : Rp α) (te : WX → TE) (m : Γ → M α) : Prop := ∀ (k : Cn) (F H : Hp) (σ : L2.St) (ρ : Γ) (c : Nat) (Q : VK) (W : WX), Wo k F H c → EI k E F H σ ρ →
  (m ρ).wp c (VP k F H R Q) (fun e => ∀ cls d F' H', ExtX none F H F' H' → ZE K mg fl F' e cls d → W cls d σ H') → te W σ H Q
def SBF (K : PySem.W.Frag) (mg : Str → Option Value) (fl : Str → Option Str) (E : EV Γ) (E' : EV Γ') (El : EV Δ) (R : Rp β) (ts : WX → TS) (m : Γ → M (Ct Γ' Δ β)) : Prop :=
  ∀ (k : Cn) (F H : Hp) (σ : L2.St) (ρ : Γ) (c : Nat) (D : Ends) (W : WX), Wo k F H c → EI k E F H σ ρ → (m ρ).wp c (SP k F E' El R D) (fun e => ∀ cls d F' H', ExtX none F H F' H' → ZE K mg fl F' e cls d → W cls d σ H') → ts W D σ H
theorem sb_dropF {te : WX → TE} {m : Γ → M α} (he : SETF K mg fl E Ra te m) : SBF K mg fl E E El R (fun W => tDrop (te W)) fun ρ => (m ρ).bind fun _ => .ret (.nx ρ) := fun k F H σ ρ c D W w e h =>
  he k F H σ ρ c _ W w e (wp_imp h fun a c1 q v F1 H1 x1 w1 r1 => q F1 H1 σ x1.fz w1 (e.step x1))
def SHdF (μ : Md) (mg : Str → Option Value) (fl : Str → Option Str) (K : PySem.W.Frag) (E : EV Γ) (E' : EV Γ') (El : EV Δ) (R : Rp β) (l : List (Value × (Addr → Value → Option Addr → TS))) (m : Γ → Er → M (Ct Γ' Δ β)) : Prop :=
  ∀ (k : Cn) (F H : Hp) (σ : L2.St) (ρ : Γ) (c : Nat) (D : Ends) (e : Er) (Wout : WX), Wo k F H c → EI k E F H σ ρ → (m ρ e).wp c (SP k F E' El R D) (XP μ k) → ∀ cls d, ZE K mg fl F e cls d → wMany K Wout D l cls d σ H
theorem sh_nilF : SHdF μ mg fl K E E' El R [] fun _ _ => M.none := fun k F H σ ρ c D e W w ei h => h.elim
theorem sh_consF {c : Value} {ts : TS} {l : List (Value × (Addr → Value → Option Addr → TS))} {ys ns : List Str} {m : Γ → M (Ct Γ' Δ γ)} {n : Γ → Er → M (Ct Γ' Δ γ)} (hy : Exm mg K c true ys) (hn : Exm mg K c false ns) (h : SS μ E E' El R ts m) (h' : SHdF μ mg fl K E E' El R l n) :
    SHdF μ mg fl K E E' El R ((c, fun _ _ _ => ts) :: l) fun ρ e => M.byE ys ns (m ρ) (n ρ) e := fun k F H σ ρ cc D e W w ei q cls d g => by
  rcases q with ⟨i, q⟩ | ⟨i, q⟩
  · exact ⟨true, hy.at i g.1, fun _ a _ => h k F H σ ρ cc D w ei q, fun z => Bool.noConfusion z⟩
  · exact ⟨false, hn.at i g.1, fun z => Bool.noConfusion z, fun _ => h' k F H σ ρ cc D e W w ei q cls d g⟩
theorem s_tryF {Wout : WX} {l : List (Value × (Addr → Value → Option Addr → TS))} {tb : WX → TS} {mb : Γ → M (Ct Γ' Δ γ)} {mh : Γ → Er → M (Ct Γ' Δ γ)} (hb : SBF K mg fl E E' El R tb mb) (hh : SHdF μ mg fl K E E' El R l mh) :
    SS μ E E' El R (fun D σ H => tb (wMany K Wout D l) D σ H) fun ρ => M.tryM (mb ρ) (mh ρ) := fun k F H σ ρ c D w e q =>
  hb k F H σ ρ c D _ w e ((mb ρ).mono c (fun _ _ z => z) (fun er z cls d F' H' x g => hh k F' H' σ ρ c D er Wout (w.call x).2 (e.step (w.call x).1) ((mh ρ er).mono c (fun _ _ z => z.fz x.fz) (fun _ z => z) z) cls d g) q)
end
section
variable {Γ α β γ : Type} {μ : Md} {E : EV Γ} {Ra : Rp α} {Rb : Rp β} {R : Rp γ} {K : PySem.W.Frag}
theorem e_dat {d : α → PyData} {n : Nat} {te : TE} {m : Γ → M α} (hd : DpR K Ra d n) (h : SE μ E Ra te m) : SE μ E (rDt K) te fun ρ => (m ρ).bind fun a => .ret (d a) := fun k F H σ ρ c Q w e q =>
  h k F H σ ρ c Q w e (wp_imp q fun a c1 z v F' H' x w' r => z v F' H' x w' (.inl (hd.dp r)))
theorem o_eqDt : OpS μ (rEqD K) (rDt K) (rDt K) rBl fun a b => .need ((a.canLay0 = true ∧ a.depth ≤ 64) ∧ (b.canLay0 = true ∧ b.depth ≤ 64)) (.ret (PyData.eqv a b)) := fun k F H c x y a b Q w hx hy q =>
  ⟨_, _, dp_same w.sub _ _ (hx.dp fun e => by have := q.1.1.1; rw [e] at this; cases this), dp_same w.sub _ _ (hy.dp fun e => by have := q.1.2.1; rw [e] at this; cases this), shaped_of q.1.1.2 (Nat.le_refl _) q.1.1.1, shaped_of q.1.2.2 (Nat.le_refl _) q.1.2.1, q.2 _ F H (ExtX.refl w.sub) w rfl⟩
def tyD : PyData → String
  | .none => "NoneType"
  | .bool _ => "bool"
  | .int _ => "int"
  | .str _ => "str"
  | .list _ => "list"
  | .tuple _ => "tuple"
  | .dict _ => "dict"
theorem dp_ty {F H : Hp} {v : V} {d : PyData} (s : Same F H) (h : Dp K F v d) : TyY K H v (.type (tyD d)) := by
  cases h with
  | non => exact .x (.base .non)
  | bl b => exact .x (.base (.bl b))
  | int i => exact .x (.base (.int i))
  | str x => exact .x (.base (.str x))
  | lst h t =>
    rcases h with (h | ⟨o, h⟩) | ⟨o, its, n, h1, h2, _⟩
    · exact .x (.base (.lst (s _ _ h)))
    · exact .x (.base (.frz (s _ _ h)))
    · exact .x (.kList h1 h2)
  | tup h t =>
    rcases h with (h | ⟨o, h⟩) | ⟨o, its, n, h1, h2, _⟩
    · exact .x (.base (.tup (s _ _ h)))
    · exact .x (.fTuple (s _ _ h))
    · exact .x (.kTuple h1 h2)
theorem dpE_ty {F H : Hp} {v : V} {d : PyData} (s : Same F H) (h : DpE K F v d) : TyY K H v (.type (tyD d)) := by
  rcases h with h | ⟨rfl, h⟩
  · exact dp_ty s h
  · exact tr_d0.ty s h
def isD (u : String) (d : PyData) : Bool := tyD d == u || (u == "int" && tyD d == "bool")
theorem kit_D {d : PyData} {u : String} (hu : u ∈ ["int", "bool", "str", "list", "tuple"]) {F : Hp} {v : V} (h : DpE K F v d) : PySem.W.kitOne K (.type (tyD d)) (.type u) = some (isD u d) := by
  simp only [List.mem_cons, List.not_mem_nil, or_false] at hu
  have key : ∀ t : String, t ∈ ["NoneType", "bool", "int", "str", "list", "tuple", "dict"] → PySem.W.kitOne K (.type t) (.type u) = some (t == u || (u == "int" && t == "bool")) := fun t ht => by
    simp only [List.mem_cons, List.not_mem_nil, or_false] at ht
    rcases ht with rfl | rfl | rfl | rfl | rfl | rfl | rfl <;> rcases hu with rfl | rfl | rfl | rfl | rfl <;> exact kit_ty (by decide +kernel)
  rcases h with h | ⟨rfl, h⟩
  · cases h <;> exact key _ (by simp [tyD])
  · exact key _ (by simp [tyD])
theorem c_isiDt {u : String} (hu : u ∈ ["int", "bool", "str", "list", "tuple"] := by decide) : CaS μ (rIsiU K) (a2 (rDt K) (rTyV u)) rBl fun a => .ret (isD u a.1) := fun k F H c vs a Q w r q => by
  obtain ⟨v, x, e, r1, r2⟩ := two r
  have r2' : x = .ty u := r2
  subst r2'
  exact ⟨v, _, _, _, _, e, .ty u, dpE_ty w.sub r1, kit_D hu r1, VP.now w q rfl⟩
def dInt : PyData → Option Int
  | .int i => some i
  | _ => none
theorem e_dInt {te : TE} {m : Γ → M PyData} (h : SE μ E (rDt K) te m) : SE μ E rInt te fun ρ => (m ρ).bind fun d => M.the (dInt d) := fun k F H σ ρ c Q w e q =>
  h k F H σ ρ c Q w e (wp_imp q fun d c1 z v F' H' x w' r => by
    obtain ⟨i, ei, z⟩ := z
    cases d with
    | int j =>
      obtain rfl : j = i := Option.some.inj ei
      have : v = .int j := by
        rcases r with r | ⟨e, _⟩
        · cases r; rfl
        · cases e
      exact z v F' H' x w' this
    | _ => cases ei)
theorem e_d0Dt {te : TE} {m : Γ → M Unit} (h : SE μ E rD0 te m) : SE μ E (rDt K) te fun ρ => (m ρ).bind fun _ => .ret (.dict []) := fun k F H σ ρ c Q w e q =>
  h k F H σ ρ c Q w e (wp_imp q fun a c1 z v F' H' x w' r => z v F' H' x w' (.inr ⟨rfl, r⟩))
end
end PF
set_option maxHeartbeats 2000000
namespace PF
open PySem PySem.Spec PyProof.Rows L2
open LamX (CodeO TabB LamS lamEnv lamCx)
inductive LmK (P : Addr) (q : Str) (H : Hp) (ps : Array Value) (c' : Addr) : Hp → Prop
  | hit (e : ∃ pos : Pos, codeAmong pos ps.toList = some (.ref c')) : LmK P q H ps c' H
  | new {more : Array Value} (n : H c' = none) (tr : TriplesOk (ps ++ more).toList)
      (el : ∀ (pos : Pos) (cv : Value), codeAmong pos (ps ++ more).toList = some cv → codeAmong pos ps.toList = some cv ∨ cv = .ref c') : LmK P q H ps c' (upd (upd H P (.tbl (ps ++ more))) c' (CodeO c' q))
section
variable {X : Cx} {pins : List (Addr × Obj)} {σ : L2.St} {H : Hp} {s : Shared} {c P : Addr} {ps : Array Value} {params : Arguments} {body : Expr} {scope : Scope} {pos : Pos}
theorem lam_mk {Ex Qv : Value → Shared → Prop} (I : Inv X pins σ H s) (T : TabB X.base X.mg c P) (hc : X.env.code = .ref c) (at_ : H P = some (.tbl ps)) (tr : TriplesOk ps.toList)
    (el : ∀ (p : Pos) (cv : Value), codeAmong p ps.toList = some cv → ∃ c0, cv = .ref c0 ∧ H c0 = some (CodeO c0 (X.env.qual ++ "<lambda>")))
    (hd : defaultsOf params X.env = ([], [])) (cl : ∀ y ∈ scope.names, y.2 = .free → ∃ d, X.env.cells.lookup y.1 = some d)
    (next : ∀ (f c' : Addr) (pm ctv : Value) (H1 : Hp) (s' : Shared), Inv X pins σ H1 s' → LmK P (X.env.qual ++ "<lambda>") H ps c' H1 →
      s'.heap.get? f = some (PySem.W.kla_obj "<lambda>" (X.env.qual ++ "<lambda>") params body scope (cloFrom X.env.cells scope.names []) pm c' ctv) → H1 f = none → f ∉ frs X.stack → H1 c' = some (CodeO c' (X.env.qual ++ "<lambda>")) → Qv (.ref f) s') :
    wpAny (model X.prog X.w) X.A (eval (.Lambda params body scope pos) X.env) Qv Ex s := by
  have bmP := T.bm.keeps I.bk
  have objP : s.heap.get? P = some { cls := .none, data := .fields ps } := I.hok P _ at_
  have notFr : ∀ g, s.heap.objs.size ≤ g → g ∉ frs X.stack := fun g hg z =>
    (List.mem_cons.mp (I.stkSub _ z)).elim (fun e => absurd (Nat.lt_of_lt_of_le I.lt (e ▸ hg)) (Nat.lt_irrefl _)) fun e => I.nofs hg e
  refine PySem.W.kla_eval hd ?_
  rcases hf : codeAmong pos ps.toList with _ | cv
  · refine PySem.W.kla_makeFunction (mg := X.mg) (c := c) (P := P) (ps := ps) (closure_ok cl) I.ok.glob (I.mod.glob.keeps I.bk) hc (T.code.keeps I.bk) objP tr hf T.gP bmP ?_
    intro c' ctv h' tk ext big small rec tabl
    obtain ⟨d, oc, vs, t, ed, hoc, hdat, hvs⟩ := rec
    obtain rfl : c' = d := Value.ref.inj ed
    have grow : s.heap.objs.size ≤ h'.objs.size := Nat.le_of_lt (Nat.lt_of_le_of_lt big small)
    have fresh : H c' = none := I.hok.fresh big
    have lst3 : (ps ++ #[rawInt pos.line, rawInt pos.col, .ref c']).toList = ps.toList ++ [rawInt pos.line, rawInt pos.col, .ref c'] := by simp
    let h2 := h'.push (PySem.W.kla_obj "<lambda>" (X.env.qual ++ "<lambda>") params body scope (cloFrom X.env.cells scope.names []) ((X.mg "__name__").getD .none) c' ctv)
    have keep2 : ∀ {b : Addr} {o : Obj}, h'.get? b = some o → h2.get? b = some o := fun e => Heap.get?_push_of_some _ e
    have J := LamX.inv_table (t' := tk) (more := #[rawInt pos.line, rawInt pos.col, .ref c']) (h' := h2) I at_ (fun b o ne e => keep2 (ext b o ne e)) (keep2 tabl) big ⟨oc, vs, t, keep2 hoc, hdat, hvs⟩
    refine next h'.objs.size c' _ ctv _ _ J (.new fresh ?_ ?_) (Heap.get?_push_size _ rfl) ?_ (notFr _ grow) upd_same
    · rw [lst3]; exact PySem.TriplesOk_snoc _ _ _ _ tr
    · intro p cv hcv
      rw [lst3] at hcv
      exact LamX.among_app _ tr hcv
    · have nP := Nat.ne_of_gt (Nat.lt_of_lt_of_le (Heap.lt_size objP) grow)
      rw [upd_ne (Nat.ne_of_gt small), upd_ne nP]
      exact I.hok.fresh grow
  · obtain ⟨c', e, known⟩ := el pos cv hf
    subst e
    refine PySem.W.kla_makeFunctionHit (mg := X.mg) (c := c) (P := P) (ps := ps) (closure_ok cl) I.ok.glob (I.mod.glob.keeps I.bk) hc (T.code.keeps I.bk) objP tr hf bmP ?_
    intro ctv h' tk ext grow
    let h2 := h'.push (PySem.W.kla_obj "<lambda>" (X.env.qual ++ "<lambda>") params body scope (cloFrom X.env.cells scope.names []) ((X.mg "__name__").getD .none) c' ctv)
    have J : Inv X pins σ H { s with heap := h2, toks := tk } := I.kept fun b o e => Heap.get?_push_of_some _ (ext b o e)
    exact next h'.objs.size c' _ ctv H _ J (.hit ⟨pos, hf⟩) (Heap.get?_push_size _ rfl) (I.hok.fresh grow) (notFr _ grow) known
end
section
variable {X : Cx} {pins : List (Addr × Obj)} {σ : L2.St} {H : Hp} {s : Shared} {scope : Scope}
theorem lamS_has (L : LamS X.env.scope scope) (ok : X.Ok) : ∀ y ∈ scope.names, y.2 = .free → ∃ d, X.env.cells.lookup y.1 = some d := fun y hy e => (L.free y hy e).elim (fun z => ok.has _ (.inl z)) fun z => ok.has _ (.inr z)
theorem pe_thunk {CXg : CXT} {Eg : XK} {Ng : List Str} {qg : Str} {sg : Scope} {g f c' : Addr} {cdg pm ctv : Value} {params : Arguments} {body : Expr} {k i : Nat} {a : Str} {pn : List (Addr × Obj)} {xe : Value → Shared → Prop} {W : WX} {tb : XK → TE} {p1 p2 : Pos}
    (I : Inv X pins σ H s) (L : LamS X.env.scope scope) (obj : s.heap.get? f = some (PySem.W.kla_obj "<lambda>" (X.env.qual ++ "<lambda>") params body scope (cloFrom X.env.cells scope.names []) pm c' ctv)) (nf : H f = none) (nfr : f ∉ frs X.stack)
    (bnd : bindArgs (PySem.W.kla_fn "<lambda>" (X.env.qual ++ "<lambda>") params body scope (cloFrom X.env.cells scope.names []) pm (.ref c') ctv) ⟨[], []⟩ = pure [])
    (tk : Takes ((cxOf CXg X.prog X.w X.K X.mg X.base Ng qg sg g cdg X.A X.stack s H Eg).tr pn xe) W) (room : Room (k + 1) (X.A.deeper (envOfC qg sg s.heap.objs.size g cdg)))
    (run : ∀ (A : Around) (outer : List Env) (s : Shared) (H : Hp) (E : XK), Room k (A.deeper (lamEnv X scope s.heap.objs.size f c')) → PE (lamCx X A outer s H E scope f c') body (tb E))
    (hN : Ng[i]? = some a) (hv : Vis sg a) (hd : (a == ("__debug__" : Str)) = false) (hcd : (a == ("__classdict__" : Str)) = false) :
    PE ((cxOf CXg X.prog X.w X.K X.mg X.base Ng qg sg g cdg X.A X.stack s H Eg).tr pn xe) (.Call (.Name a p1) [] [] p2)
      (fun τ HZ Q => τ[i]? = some (some (.ref f)) ∧ HZ c' = some (CodeO c' (X.env.qual ++ "<lambda>")) ∧ tb (WE W τ) σ HZ Q) := by
  constructor
  intro pz sz τ HZ Q IZ ⟨slot, code, q⟩
  refine wpAny_Call_Name_kw (thn ((pe_var (pos := p1) (i := i) hN hv hd hcd).run pz sz τ HZ (fun v H1 => v = .ref f ∧ H1 = HZ) IZ ⟨.ref f, slot, rfl, rfl⟩) ?_)
  rintro u s1 ⟨v, H1, J, r, e1, e2⟩
  subst e1 e2
  obtain rfl : u = Value.ref f := r
  have obj1 := J.base.keep f _ obj nf nfr fun z => nomatch (show f ∈ ([] : List Addr) from z)
  obtain ⟨⟨oc, vs, t, hoc, hdat, hvs⟩, _, _⟩ := J.hok c' _ code
  have whole : codeAny (model X.prog X.w) (X.A.deeper (envOfC qg sg s.heap.objs.size g cdg)) (.call (.ref f) ⟨[], []⟩)
      (CR (L2.CX X.prog X.w) (envOfC qg sg s.heap.objs.size g cdg :: X.stack) X.prog X.w H1 s1 Q (WE W τ)) s1 := by
    refine PySem.W.kla_callFunE room.depth obj1 rfl L.co L.gen rfl ⟨c', oc, vs, t, rfl, hoc, hdat, hvs⟩ ?_
    rw [bnd]
    refine wpAny_pure (wpAny_newFunctionEnv (fun y hy => (L.own y hy).2) (fun y hy => nomatch hy) (fun hn nsn but => ⟨J.nolimit.fresh _ but, ?_⟩) L.kind)
    have kp : ∀ b o, s1.heap.get? b = some o → hn.get? b = some o := fun b o e =>
      but.extBut b o (Nat.ne_of_lt (Heap.lt_size e)) (Heap.get?_push_of_some _ e)
    have J0 := LamX.lam_start2 (E := WE W τ) (c' := c') (f := f) (tk := s1.toks + ([] : List (Str × Value)).length) I L J.env0 room.hd J.base nsn kp
    refine PySem.W.kla_codeExpr (wpAny_mono ((run _ _ s1 H1 (WE W τ) (room.deeper _)).run [] _ _ H1 Q J0 q) ?_ fun e s' z => z)
    rintro v s' ⟨w', H', J', rv, z⟩
    exact ⟨w', H', J'.os, J'.bare, J'.base, J'.hok, rv, z⟩
  have pas := passAt tk τ
  refine PySem.W.callWith_F0 ⟨_, _, _, _, obj1⟩ (wpAny_call (codeAny_mono whole ?_))
  rintro (e | fl) s' z
  · exact pas pz H1 s1 e s' J z
  · cases fl with
    | ret u => exact J.after z
    | next => exact z.elim
    | brk => exact z.elim
    | cont => exact z.elim
end
def Gives (P : Program) (w : World) (K : PySem.W.Frag) (mg : Str → Option Value) (base : Heap) (A : Around) (stack : List Env) (Ng : List Str) (x : Str) (sg : Scope) (g : Addr) (cdg : Value) (bg : List Stmt) (a q : Str) (TT : Addr → (XK → Hp → VK → Prop) → Hp → VK → Prop) : Prop :=
  ∀ (f c' : Addr) (s : Shared) (H : Hp) (Q : VK) (tl : XK → Hp → VK → Prop),
    (∀ (W : WX) (pn : List (Addr × Obj)) (xe : Value → Shared → Prop) (p1 p2 : Pos), Takes ((cxOf C8.CX0 P w K mg base Ng x sg g cdg A stack s H C8.E0).tr pn xe) W →
      PE ((cxOf C8.CX0 P w K mg base Ng x sg g cdg A stack s H C8.E0).tr pn xe) (.Call (.Name a p1) [] [] p2) (fun τ HZ Q => τ[0]? = some (some (.ref f)) ∧ HZ c' = some (CodeO c' q) ∧ tl (WE W τ) HZ Q)) →
    Room 6 (A.deeper (envOfC x sg s.heap.objs.size g cdg)) → H c' = some (CodeO c' q) → TT c' tl H Q →
    ∃ t, PSs (cxOf C8.CX0 P w K mg base Ng x sg g cdg A stack s H C8.E0).nox bg t ∧ t { nx := fun _ H' => Q .non H', rt := Q } (L2.start Ng [.ref f]) H
def tLm (P : Addr) (q : Str) (TT : Addr → (XK → Hp → VK → Prop) → Hp → VK → Prop) (t : XK → TE) : TE := fun σ H Q => ∃ ps : Array Value, H P = some (.tbl ps) ∧ TriplesOk ps.toList ∧
  (∀ (p : Pos) (cv : Value), codeAmong p ps.toList = some cv → ∃ c0, cv = .ref c0 ∧ H c0 = some (CodeO c0 q)) ∧ ∀ c' H1, LmK P q H ps c' H1 → TT c' (fun E H' Q' => t E σ H' Q') H1 Q
section
variable {X : Cx}
theorem pe_lm {TT : Addr → (XK → Hp → VK → Prop) → Hp → VK → Prop} {x a : Str} {g c P : Addr} {k : Nat} {pg : Arguments} {bg : List Stmt} {sg : Scope} {dV kV doc pm cdv ct oc : Value} {an od : Option Addr} {osl : Array (Option Value)} {Ng : List Str}
    {params : Arguments} {body : Expr} {scope : Scope} {t : XK → TE} {p lpos pos : Pos} (gl : Gl X x) (hm : X.mg x = some (.ref g)) (kp : PySem.W.keepIn X.K (.ref g) = true)
    (lk : X.K.lookup g = some ⟨oc, od, .func (PySem.W.fnOf x x pg bg sg dV kV doc pm an cdv ct), osl⟩) (cd : PySem.W.codeIn X.K cdv x = true) (bn : L2.Binds X.K (PySem.W.fnOf x x pg bg sg dV kV doc pm an cdv ct) [a] []) (Sg : FnScope Ng [a] sg) (n0 : Ng[0]? = some a) (va : Vis sg a)
    (G : Gives X.prog X.w X.K X.mg X.base X.A X.stack Ng x sg g cdv bg a (X.env.qual ++ "<lambda>") TT) (T : TabB X.base X.mg c P) (hc : X.env.code = .ref c) (room : Room (k + 8) X.A) (L : LamS X.env.scope scope) (dfl : defaultsOf params X.env = ([], []))
    (bnd : ∀ (q : Str) (cl : List (Str × Addr)) (pm cv ctv : Value), bindArgs (PySem.W.kla_fn "<lambda>" q params body scope cl pm cv ctv) ⟨[], []⟩ = pure [])
    (run : ∀ (A : Around) (outer : List Env) (s : Shared) (H : Hp) (E : XK) (f c' : Addr), Room (k + 6) (A.deeper (lamEnv X scope s.heap.objs.size f c')) → PE (lamCx X A outer s H E scope f c') body (t E))
    (db : (x == ("__debug__" : Str)) = false) (hd : (a == ("__debug__" : Str)) = false) (hcd : (a == ("__classdict__" : Str)) = false) :
    PE X (.Call (.Name x p) [.Lambda params body scope lpos] [] pos) (tLm P (X.env.qual ++ "<lambda>") TT t) := by
  constructor
  rintro pins s σ H Q I ⟨ps, at_, tr, el, h⟩
  refine wpAny_Call_Name_kw (ld_glob I gl hm ?_ db)
  refine PySem.W.callWith_K (h₀ := X.base) I.ok.mod.kin kp ?_ (by rfl) (by rfl)
  show wpAny _ _ (spliced ((false, eval (.Lambda params body scope lpos) X.env) :: backTo pos (starEach [] X.env))) _ _ s
  refine Calls.spliced_cons (lam_mk I T hc at_ tr el dfl (lamS_has L I.ok) ?_)
  intro f c' pm' ctv H1 s' J lm obj nf nfr code
  refine Calls.spliced_nil ⟨J.kIn, ?_⟩
  have whole : codeAny (model X.prog X.w) X.A (.call (.ref g) ⟨[.ref f], []⟩) (CR C8.CX0 X.stack X.prog X.w H1 s' Q C8.E0) s' := by
    refine LamX.run_ofS (N := Ng) (ps := [a]) (us := [.ref f]) (vs := [.ref f]) lk cd Sg room J.env0 (bn s' [.ref f] J.kIn rfl) (.cons rfl .nil) rfl fun room' => ?_
    refine (G f c' s' H1 Q (fun E H' Q' => t E σ H' Q') (fun W pn xe p1 p2 tk => ?_) (room'.mono (by omega)) code (h c' H1 lm)).imp fun t z => ⟨z.1.nox, z.2⟩
    exact pe_thunk (i := 0) (k := k + 6) J L obj nf nfr (bnd _ _ _ _ _) tk room' (fun A outer s H E hr => run A outer s H E f c' hr) n0 va hd hcd
  refine wpAny_call (codeAny_mono whole ?_)
  rintro (e | fl) s2 z
  · exact (show False from z).elim
  · cases fl with
    | ret u => exact J.after z
    | next => exact z.elim
    | brk => exact z.elim
    | cont => exact z.elim
end
end PF
set_option maxHeartbeats 1000000
namespace PF
open PySem PySem.Spec PyProof.Rows L2 SlX
def rAny : Rp Unit := ⟨fun _ _ _ => True, fun _ h => h⟩
theorem se_any {Γ α : Type} {μ : Md} {E : EV Γ} {Ra : Rp α} {te : TE} {m : Γ → M α} (h : SE μ E Ra te m) : SE μ E rAny te fun ρ => (m ρ).bind fun _ => .ret () := fun k F H σ ρ c Q w e q => h k F H σ ρ c Q w e (wp_imp q fun _ _ z v F' H' x w' _ => z v F' H' x w' trivial)
section
variable {K : PySem.W.Frag} {mg : Str → Option Value} {fl : Str → Option Str}
def ThOk (K : PySem.W.Frag) (mg : Str → Option Value) (fl : Str → Option Str) (tl : XK → Hp → VK → Prop) (F : Hp) (m : M Unit) : Prop := ∀ (XE : XK) (F1 H1 : Hp) (Q : VK), Same F F1 → Same F1 H1 →
  m.wp 0 (fun _ _ => ∀ v F' H', ExtX none F1 H1 F' H' → Q v H') (fun e => ∀ cls d F' H', ExtX none F1 H1 F' H' → ZE K mg fl F' e cls d → XE cls d H') → tl XE H1 Q
theorem ThOk.st {tl : XK → Hp → VK → Prop} {F F' : Hp} {m : M Unit} (s : Same F F') (h : ThOk K mg fl tl F m) : ThOk K mg fl tl F' m := fun XE F1 H1 Q a b q => h XE F1 H1 Q (s.trans a) b q
def sThk (K : PySem.W.Frag) (mg : Str → Option Value) (fl : Str → Option Str) (f c' : Addr) (q : Str) (tl : XK → Hp → VK → Prop) : SR (M Unit) :=
  ⟨fun _ _ F _ o m => o = some (.ref f) ∧ F c' = some (LamX.CodeO c' q) ∧ ThOk K mg fl tl F m, fun _ => none, fun x ⟨e, h, t⟩ => ⟨e, x.fz _ _ h, t.st x.fz⟩, fun _ _ h => h, fun s _ _ ⟨e, h, t⟩ => ⟨e, s _ _ h, t.st s⟩, fun _ e => nomatch e⟩
section
variable {Γ Γ' Δ α β γ : Type} {E : EV Γ} {E' : EV Γ'} {El : EV Δ} {R : Rp γ} {f c' : Addr} {q : Str} {tl : XK → Hp → VK → Prop}
theorem set_thunk {i : Nat} {g : Γ → M Unit} (hg : GetS E i (sThk K mg fl f c' q tl) g) : SETF K mg fl E rAny (fun W τ HZ Q => τ[i]? = some (some (.ref f)) ∧ HZ c' = some (LamX.CodeO c' q) ∧ tl (WE W τ) HZ Q) fun ρ => (g ρ).still := fun k F H σ ρ c Q W w e h => by
  obtain ⟨o, h1, h2, h3, h4⟩ := hg.get e.r
  subst h2
  refine ⟨h1, w.sub _ _ h3, h4 _ F H Q (Same.refl F) w.sub ((g ρ).mono 0 (fun a d z v F' H' x => ?_) (fun er z cls d F' H' x hz => z cls d F' H' x hz) h)⟩
  exact z v F' H' (w.call x).1 (w.call x).2 trivial
end
def TTw {γ : Type} (K : PySem.W.Frag) (mg : Str → Option Value) (fl : Str → Option Str) (q : Str) (R : Rp γ) (mw : M Unit → M γ) : Addr → (XK → Hp → VK → Prop) → Hp → VK → Prop := fun c' tl H Q => ∃ F m, Same F H ∧ F c' = some (LamX.CodeO c' q) ∧ ThOk K mg fl tl F m ∧
  (mw m).wp 0 (fun b _ => ∀ v F' H', ExtX none F H F' H' → R.r F' v b → Q v H') (fun _ => False)
theorem fn_bodyL {γ Γ Γ' : Type} {R : Rp γ} {E : EV Γ} {E' : EV Γ'} {n : Nat} {ρ0 : Γ} {Ng : List Str} {t : TS} {mb : M Unit → Γ → M (Ct Γ' Unit γ)} {f c' : Addr} {q : Str} {tl : XK → Hp → VK → Prop} {H : Hp} {Q : VK}
    (h0 : St0 aNil n E fun _ => ρ0) (hn : Ng.length = n + 1) (hb : SS md0 (eCons (sThk K mg fl f c' q tl) E) E' eNil R t fun ρ => mb ρ.1 ρ.2) (ht : TTw K mg fl q R (fun m => (mb m ρ0).fin) c' tl H Q) :
    t { nx := fun _ H' => Q .non H', rt := Q } (L2.start Ng [.ref f]) H := by
  obtain ⟨F, m, s, hc, th, h⟩ := ht
  rw [start_eq (n := n) (by rw [hn]; show n + 1 = 1 + n; omega)]
  refine hb ⟨none, F, H⟩ F H _ (m, ρ0) 0 _ ⟨s, ExtX.refl s, fun _ e => nomatch e⟩ ⟨⟨some (.ref f), List.replicate n none, rfl, ⟨rfl, hc, th⟩, h0.r (vs := []) (a := ()) rfl⟩, ?_⟩ ?_
  · show ([] ++ E.owns (List.replicate n none)).Nodup
    rw [h0.ow]; exact List.nodup_nil
  · refine (mb m ρ0).mono 0 (fun t c z => ?_) (fun er z => z.elim) h
    cases t with
    | nx _ => exact z.elim
    | rt b => exact fun v F' H' w r => z v F' H' w.ext r
    | bk _ => exact z.elim
    | ct _ => exact z.elim
def eTab : EV Unit where
  r := fun _ _ F H σ _ => σ = [] ∧ TbA F H
  owns := fun _ => []
  step := fun x ⟨e, h⟩ => ⟨e, x.tb h⟩
  upd := fun {p H0 F H σ ρ D x} _ nw ⟨e, h⟩ => ⟨e, fun t ht => (h t ht).go (h t ht).1 (fun o z => by
    have ne : t.1 ≠ D := nw.elim (fun n => (h t ht).ne n) fun ⟨o, ho, l⟩ => (h t ht).nd ho (by cases o <;> first | rfl | cases l)
    rw [upd_ne ne]; exact z) (Same.refl F)⟩
  fz := fun {p H0 F H σ ρ D x} s _ nw ⟨e, h⟩ => ⟨e, fun t ht => (h t ht).go (by
    have ne : t.1 ≠ D := nw.elim (fun n => (h t ht).ne n) fun ⟨o, ho, l⟩ => (h t ht).nd ho (by cases o <;> first | rfl | cases l)
    rw [upd_ne ne]; exact (h t ht).1) (fun _ z => z) s⟩
  has := fun _ h => nomatch h
structure HasT {Γ : Type} (E : EV Γ) : Prop where
  t : ∀ {p : Option Addr} {H0 F H : Hp} {σ : L2.St} {ρ : Γ}, E.r p H0 F H σ ρ → TbA F H
theorem hasT0 : HasT eTab := ⟨fun h => h.2⟩
theorem hasTS {Γ α : Type} {E : EV Γ} {S : SR α} (h : HasT E) : HasT (eCons S E) := ⟨fun ⟨_, _, _, _, t⟩ => h.t t⟩
structure PlV {Γ Γ' : Type} (E : EV Γ) (E' : EV Γ') (f : Γ → Γ') : Prop where
  r : ∀ {p : Option Addr} {H0 F H : Hp} {σ : L2.St} {ρ : Γ}, E.r p H0 F H σ ρ → ∀ {p' : Option Addr} {H0' F1 H1 : Hp}, Same F F1 → E'.r p' H0' F1 H1 σ (f ρ)
  ow : ∀ σ, E'.owns σ = []
theorem plv_tab : PlV eTab eNil id := ⟨fun h _ _ _ _ _ => h.1, fun _ => rfl⟩
theorem plv_val {Γ Γ' α : Type} {E : EV Γ} {E' : EV Γ'} {Ra : Rp α} {f : Γ → Γ'} (h : PlV E E' f) : PlV (eCons (sVal Ra) E) (eCons (sVal Ra) E') fun ρ => (ρ.1, f ρ.2) :=
  ⟨fun ⟨o, τ, e, ⟨v, eo, r⟩, t⟩ _ _ _ _ s => ⟨o, τ, e, ⟨v, eo, Ra.st s r⟩, h.r t s⟩, fun σ => by
    cases σ with
    | nil => rfl
    | cons o τ => exact h.ow τ⟩
theorem plv_un {Γ Γ' α : Type} {E : EV Γ} {E' : EV Γ'} {S : SR α} {f : Γ → Γ'} (h : PlV E E' f) : PlV (eCons S E) (eCons sUn E') fun ρ => ((), f ρ.2) :=
  ⟨fun ⟨o, τ, e, r, t⟩ _ _ _ _ s => ⟨o, τ, e, trivial, h.r t s⟩, fun σ => by
    cases σ with
    | nil => rfl
    | cons o τ => exact h.ow τ⟩
theorem e_lam {Γ Γ' γ : Type} {E : EV Γ} {E' : EV Γ'} {R : Rp γ} {P : Addr} {q : Str} {f : Γ → Γ'} {t : XK → TE} {mb : Γ' → M Unit} {mw : M Unit → M γ} (hP : (P, q) ∈ tbN) (un : ∀ p ∈ tbN, p.1 = P → p.2 = q) (hT : HasT E) (pl : PlV E E' f)
    (hb : ∀ XE, SE (mdF K mg fl XE) E' rAny (t XE) mb) : SE md0 E R (tLm P q (TTw K mg fl q R mw) t) fun ρ => (mw (mb (f ρ))).still := fun k F H σ ρ c Q w e h => by
  have ta := hT.t e.r
  obtain ⟨fP, ps, at_, tr, el⟩ := ta _ hP
  dsimp only at fP at_
  -- the body, wherever F still stands
  have th : ∀ {F1 : Hp}, Same F F1 → ThOk K mg fl (fun E H' Q' => t E σ H' Q') F1 (mb (f ρ)) := fun {F1} s XE F2 H2 Q2 a b z => by
    refine hb XE ⟨none, F2, H2⟩ F2 H2 σ (f ρ) 0 Q2 ⟨b, ExtX.refl b, fun _ e => nomatch e⟩ ⟨pl.r e.r (s.trans a), by rw [pl.ow]; exact List.nodup_nil⟩ ?_
    refine (mb (f ρ)).mono 0 (fun _ d y v F' H' x _ _ => y v F' H' x) (fun er y cls d F' H' x hz => y cls d F' H' x hz) z
  have h : (mw (mb (f ρ))).wp 0 (fun a _ => VP k F H R Q a c) (XP md0 k) := h
  have h := (mw (mb (f ρ))).mono 0 (Y := fun _ => False) (fun _ _ z => z) (fun _ z => XP.no w z) h
  refine ⟨ps, at_, tr, fun p cv hcv => ?_, fun c' H1 lm => ?_⟩
  · obtain ⟨c0, e0, hc⟩ := el p cv hcv
    exact ⟨c0, e0, w.sub _ _ hc⟩
  · cases lm with
    | hit e0 =>
      obtain ⟨pos, hpos⟩ := e0
      obtain ⟨c0, e1, hc⟩ := el pos _ hpos
      cases e1
      refine ⟨F, mb (f ρ), w.sub, hc, th (Same.refl F), (mw (mb (f ρ))).mono 0 (fun b _ z v F' H' x r => ?_) (fun _ z => z) h⟩
      exact z v F' H' (w.call x).1 (w.call x).2 r
    | @new more n tr2 el2 =>
      have nP : P ≠ c' := ne_of_none at_ n
      have fn : F c' = none := w.sub.free n
      have sF : Same F (upd F c' (LamX.CodeO c' q)) := same_upd fn
      have hF : upd F c' (LamX.CodeO c' q) c' = some (LamX.CodeO c' q) := upd_same
      have x : ExtX k.p F H (upd F c' (LamX.CodeO c' q)) (upd (upd H P (.tbl (ps ++ more))) c' (LamX.CodeO c' q)) := by
        refine ⟨sF, fun b o z => ?_, fun b o _ nt z => ?_, fun b nb => ?_, fun b nb => ?_, fun ta p hp => ?_⟩
        · by_cases y : b = c'
          · subst y; rw [upd_same] at z ⊢; exact z
          · rw [upd_ne y] at z
            have yP : b ≠ P := fun y => by rw [y, fP] at z; cases z
            rw [upd_ne y, upd_ne yP]; exact w.sub _ _ z
        · have yP : b ≠ P := fun y => by rw [y, at_] at z; cases z; cases nt
          rw [upd_ne (ne_of_none z n), upd_ne yP]; exact z
        · exact upd_ne fun y => nb (by rw [y]; exact n)
        · have y : b ≠ c' := fun y => nb (by rw [y]; exact n)
          rw [upd_ne y]
          by_cases yP : b = P
          · rw [yP, upd_same]; simp
          · rw [upd_ne yP]; exact nb
        · by_cases y : p.1 = P
          · have eq : p.2 = q := un p hp y
            obtain ⟨P', q'⟩ := p
            dsimp only at y eq ⊢
            subst y eq
            refine ⟨by rw [upd_ne nP]; exact fP, ps ++ more, by rw [upd_ne nP, upd_same], tr2, fun pos cv hcv => ?_⟩
            rcases el2 pos cv hcv with z | z
            · obtain ⟨c0, e1, hc⟩ := el pos cv z
              exact ⟨c0, e1, sF _ _ hc⟩
            · exact ⟨c', z, hF⟩
          · have ne : p.1 ≠ c' := (ta p hp).ne n
            exact (ta p hp).go (by rw [upd_ne ne]; exact (ta p hp).1) (fun o z => by rw [upd_ne ne, upd_ne y]; exact z) sF
      have w1 : Wo k (upd F c' (LamX.CodeO c' q)) (upd (upd H P (.tbl (ps ++ more))) c' (LamX.CodeO c' q)) c := by
        refine ⟨x.sub, w.ext.trans x, fun a ea => ?_⟩
        obtain ⟨d1, d2, d0, d4, d5, hd, d6⟩ := w.dice a ea
        have na : a ≠ c' := ne_of_none hd n
        have nb : a ≠ P := fun y => by rw [y, at_] at hd; cases hd
        exact ⟨by rw [upd_ne na]; exact d1, d2, d0, d4, d5, by rw [upd_ne na, upd_ne nb]; exact hd, d6⟩
      refine ⟨_, mb (f ρ), x.sub, hF, th sF, (mw (mb (f ρ))).mono 0 (fun b _ z v F' H' y r => ?_) (fun _ z => z) h⟩
      exact z v F' H' (x.trans (w1.call y).1) (w1.call y).2 r
def spOfDT {α β : Type} (S : RA α) (R : Rp β) (m : α → M β) : Sp := fun vs H Q _ => ∃ F p ws a c, vs = .ref p :: ws ∧ Same F H ∧ TbA F H ∧ F p = none ∧ Dice p H c ∧ S.r F ws a ∧
  (m a).wp c (fun b c' => ∀ v F' H', ExtX (some p) F H F' H' → F' p = none → Dice p H' c' → R.r F' v b → Q v H') (fun _ => False)
section
variable {Γ Γ' α β γ : Type} {E : EV Γ} {E' : EV Γ'} {R : Rp γ}
structure StT (S : RA α) (n : Nat) (E : EV Γ) (ρ0 : α → Γ) : Prop where
  r : ∀ {p : Option Addr} {H0 F H : Hp} {vs : List V} {a : α}, TbA F H → S.r F vs a → E.r p H0 F H (vs.map some ++ List.replicate n none) (ρ0 a)
  ow : ∀ σ, E.owns σ = []
theorem stt_nil : StT aNil 0 eTab fun _ => () := ⟨fun t h => by subst h; exact ⟨rfl, t⟩, fun _ => rfl⟩
theorem stt_un {n : Nat} {ρ0 : Unit → Γ} (h : StT aNil n E ρ0) : StT aNil (n + 1) (eCons sUn E) fun a => ((), ρ0 a) := ⟨fun {p H0 F H vs a} t z => by
  have z' : vs = [] := z
  subst z'
  exact ⟨none, List.replicate n none, rfl, trivial, h.r (F := F) (vs := []) t z⟩, fun σ => by
  cases σ with
  | nil => rfl
  | cons o τ => exact h.ow τ⟩
structure StDT (S : RA α) (n : Nat) (E : EV Γ) (ρ0 : α → Γ) : Prop where
  r : ∀ {p : Addr} {H0 F H : Hp} {vs : List V} {a : α}, TbA F H → S.r F vs a → E.r (some p) H0 F H ((.ref p :: vs).map some ++ List.replicate n none) (ρ0 a)
  ow : ∀ σ, E.owns σ = []
theorem stt_dice {S : RA β} {n : Nat} {ρ0 : β → Γ} (h : StT S n E ρ0) : StDT S n (eCons sDice E) fun a => ((), ρ0 a) := ⟨fun {p H0 F H vs a} t z => ⟨_, vs.map some ++ List.replicate n none, rfl, ⟨p, rfl, rfl⟩, h.r t z⟩, fun σ => by
  cases σ with
  | nil => rfl
  | cons o τ => exact h.ow τ⟩
theorem fn_bodyDT {S : RA α} {n : Nat} {ρ0 : α → Γ} {N : List Str} {t : TS} {mb : Γ → M (Ct Γ' Unit γ)} (h0 : StDT S n E ρ0) (hn : N.length = S.n + 1 + n) (hb : SS md0 E E' eNil R t mb) {vs : List V} {H : Hp} {Q : VK} {X : XK}
    (hs : spOfDT S R (fun a => (mb (ρ0 a)).fin) vs H Q X) : t { nx := fun _ H' => Q .non H', rt := Q } (L2.start N vs) H := by
  obtain ⟨F, p, ws, a, c, rfl, s, ta, f, d, r, h⟩ := hs
  rw [start_eq (n := n) (by rw [hn, List.length_cons, S.len r])]
  have hp : H p ≠ none := by obtain ⟨_, _, _, z, _⟩ := d; rw [z]; simp
  refine hb ⟨some p, F, H⟩ F H _ (ρ0 a) c _ ⟨s, ExtX.refl s, fun q e => by cases e; exact ⟨f, hp, d⟩⟩ ⟨h0.r ta r, by rw [h0.ow]; exact List.nodup_nil⟩ ?_
  refine (mb (ρ0 a)).mono c (fun t c z => ?_) (fun er z => z.elim) h
  cases t with
  | nx _ => exact z.elim
  | rt b => exact fun v F' H' w r => z v F' H' w.ext (w.dice p rfl).1 (w.dice p rfl).2.2 r
  | bk _ => exact z.elim
  | ct _ => exact z.elim
end
end
end PF
namespace PF
open PySem PySem.Spec PyProof.Rows L2
abbrev Cls := Value × Option Nat × (Addr → Value → Option Addr → TS)
def SuOk (X : Cx) (su : List Stmt) (ts : Addr → Value → Option Addr → TS) : Prop :=
  ∀ (a : Addr) (oe : Obj) (cls : Value) (d : Option Addr) (pn : List (Addr × Obj)), Zc cls d oe → (∃ vs, oe.data = .fields vs) → PSs (X.suite a ((a, oe) :: pn)) su (ts a cls d)
inductive HdsM (X : Cx) : List ExceptHandler → List Cls → Prop
  | nil : HdsM X [] []
  | one {x : Str} {c : Value} {ts : Addr → Value → Option Addr → TS} {u : Stmt} {us : List Stmt} {p p' : Pos} {hds : List ExceptHandler} {l : List Cls} (hc : Names X x c) (su : SuOk X (u :: us) ts) (r : HdsM X hds l) :
      HdsM X (.ExceptHandler (some (.Name x p)) none (u :: us) p' :: hds) ((c, none, ts) :: l)
  | as_ {x n : Str} {i : Nat} {c : Value} {ts : Addr → Value → Option Addr → TS} {u : Stmt} {us : List Stmt} {p p' : Pos} {hds : List ExceptHandler} {l : List Cls} (hN : X.N.Nodup) (hi : X.N[i]? = some n) (hl : X.env.kindOf n = some .local)
      (hc : Names X x c) (su : SuOk X (u :: us) ts) (r : HdsM X hds l) : HdsM X (.ExceptHandler (some (.Name x p)) (some n) (u :: us) p' :: hds) ((c, some i, ts) :: l)
end PF
namespace PF
open PySem PySem.Spec PyProof.Rows L2 SlX
structure FunC (K : PySem.W.Frag) (x qual : Str) (st : Stmt) (f : Addr) (fd : FuncData) (c : Addr) : Prop where
  ex : ∃ (oc : Value) (od : Option Addr) (kV doc pm : Value) (an : Option Addr) (ct : Value) (osl : Array (Option Value)),
    fd = PySem.W.fnOf x qual (defArgs st) (defBody st) (defScope st) .none kV doc pm an (.ref c) ct ∧ K.lookup f = some ⟨oc, od, .func fd, osl⟩ ∧ PySem.W.codeIn K (.ref c) qual = true
section
variable {P : Program} {w : World} {K : PySem.W.Frag} {mg : Str → Option Value} {base : Heap} {k : Nat} {f c : Addr} {fd : FuncData} {N ps : List Str} {sp : Sp} {x qual : Str} {st : Stmt}
theorem FunC.ok (F : FunC K x qual st f fd c) (S : FnScope N ps (defScope st)) (len : ∀ vs H Q E, sp vs H Q E → vs.length = ps.length)
    (body : ∀ (A : Around) (outer : List Env) (s : Shared) (H : Hp) (vs : List V) (Q : VK) (E : XK), Room k (A.deeper (envOfC qual (defScope st) s.heap.objs.size f (.ref c))) → sp vs H Q E →
      ∃ t, PSs (cxOf CX0 P w K mg base N qual (defScope st) f (.ref c) A outer s H E).nox (defBody st) t ∧ t { nx := fun _ H' => Q .non H', rt := Q } (start N vs) H) : FnOk P w K mg base CX0 (k + 1) f fd ps sp := by
  obtain ⟨oc, od, kV, doc, pm, an, ct, osl, rfl, lk, cd⟩ := F.ex
  exact fn_of lk cd S len fun A outer s H vs Q E hr h => (body A outer s H vs Q E hr h).imp fun t z => ⟨z.1.nox, z.2⟩
theorem FunC.okG (F : FunC K x qual st f fd c) (S : FnScope N ps (defScope st)) (b : Binds K fd ps [])
    (body : ∀ (Ar : Around) (out : List Env) (s : Shared) (G : Hp) (vs : List V) (R : VK), Ar.guards = some [] → Room k (Ar.deeper (envOfC qual (defScope st) s.heap.objs.size f (.ref c))) → sp vs G R E0 →
      ∃ t, PSs (cxOf CX0 P w K mg base N qual (defScope st) f (.ref c) Ar out s G E0).nox (defBody st) t ∧ t { nx := fun _ H' => R .non H', rt := R } (start N vs) G) : FnG P w K mg base (k + 1) f ps.length sp := by
  intro Ar out s0 G us vs R hg hr e0 hl r hsp
  obtain ⟨oc, od, kV, doc, pm, an, ct, osl, rfl, lk, hcd⟩ := F.ex
  have KX : K.In s0.heap := e0.mod.kin.keeps fun b o e => (e0.bs b o e).1
  have l2 : us.length = ps.length := r.length.symm.trans hl
  have b2 := b s0 us KX (by simpa using l2)
  rw [List.append_nil] at b2
  have kinds : ∀ y ∈ ps.zip us, (defScope st).names.lookup y.1 = some .local ∨ ((defScope st).names.lookup y.1 = some .cell ∧ ((cellsFrom (s0.heap.objs.size + 1) (defScope st).names []).lookup y.1).isSome = true) := fun y hy =>
    (S.par y.1 (List.of_mem_zip (a := y.1) (b := y.2) hy).1).imp id fun q => ⟨q, PySem.W.cellsFrom_some _ _ _ (.inl q)⟩
  refine codeAny_call_function hr.depth (KX _ _ lk) rfl S.co S.gen rfl (PySem.W.codeRec_of KX hcd) (b2 _ _ _ _ (wpAny_newFunctionEnv_cells S.kind kinds fun ev hev s1 x => ?_))
  subst hev
  refine ⟨(e0.mod.nolimit.keeps fun b o e => (e0.bs b o e).1).keeps x.toInCall.keep, codeAny_func ?_⟩
  obtain ⟨t, ht, hq⟩ := body Ar out s0 G vs R hg (hr.deeper _) hsp
  have J : Inv (cxOf CX0 P w K mg base N qual (defScope st) f (.ref c) Ar out s0 G E0) [] (start N vs) G s1 := inv_start S hr.hd e0 hl r x
  refine wpAny_mono (ht.nox.run [] s1 (start N vs) G _ J hq) (fun fl s' hs => ?_) fun _ _ z => z
  cases fl with
  | ret u => obtain ⟨v, _, G', J', rv, q⟩ := hs; exact ⟨v, G', J'.os, J'.bare, J'.base, J'.hok, rv, q⟩
  | next => obtain ⟨_, G', J', q⟩ := hs; exact ⟨V.non, G', J'.os, J'.bare, J'.base, J'.hok, rfl, q⟩
  | brk => obtain ⟨_, _, _, q⟩ := hs; exact q.elim
  | cont => obtain ⟨_, _, _, q⟩ := hs; exact q.elim
end
structure GTh (K : PySem.W.Frag) (mg : Str → Option Value) (x a : Str) (st : Stmt) : Prop where
  ex : ∃ g fd, mg x = some (.ref g) ∧ Fun K x x st g fd ∧ Binds K fd [a] []
section
variable {X : Cx}
theorem pe_lmT {TT : Addr → (XK → Hp → VK → Prop) → Hp → VK → Prop} {x a : Str} {st : Stmt} {c P : Addr} {k : Nat} {Ng : List Str} {params : Arguments} {body : Expr} {scope : Scope} {t : XK → TE} {p lpos pos : Pos} (G : GTh X.K X.mg x a st) (S : FnScope Ng [a] (defScope st))
    (n0 : Ng[0]? = some a) (va : Vis (defScope st) a) (gv : ∀ g cdv, Gives X.prog X.w X.K X.mg X.base X.A X.stack Ng x (defScope st) g cdv (defBody st) a (X.env.qual ++ "<lambda>") TT) (T : LamX.TabB X.base X.mg c P) (hc : X.env.code = .ref c) (room : Room (k + 8) X.A) (L : LamX.LamS X.env.scope scope)
    (run : ∀ (A : Around) (outer : List Env) (s : Shared) (H : Hp) (E : XK) (f c' : Addr), Room (k + 6) (A.deeper (LamX.lamEnv X scope s.heap.objs.size f c')) → PE (LamX.lamCx X A outer s H E scope f c') body (t E))
    (gl : Gl X x := by rfl) (dfl : defaultsOf params X.env = ([], []) := by rfl)
    (bnd : ∀ (q : Str) (cl : List (Str × Addr)) (pm cv ctv : Value), bindArgs (PySem.W.kla_fn "<lambda>" q params body scope cl pm cv ctv) ⟨[], []⟩ = pure [] := by exact fun _ _ _ _ _ => rfl)
    (db : (x == ("__debug__" : Str)) = false := by decide) (hd : (a == ("__debug__" : Str)) = false := by decide) (hcd : (a == ("__classdict__" : Str)) = false := by decide) :
    PE X (.Call (.Name x p) [.Lambda params body scope lpos] [] pos) (tLm P (X.env.qual ++ "<lambda>") TT t) := by
  obtain ⟨g, fd, hm, F, bn⟩ := G.ex
  obtain ⟨oc, od, kV, doc, pm, an, cdv, ct, osl, rfl, lk, cd⟩ := F.ex
  exact pe_lm gl hm F.kp lk cd bn S n0 va (gv g cdv) T hc room L dfl bnd run db hd hcd
end
section
variable {Γ α γ : Type} {E : EV Γ} {R : Rp γ} {K : PySem.W.Frag}
theorem e_callDGT {S : RA α} {ta : TA} {ma : Γ → M α} {m : α → M γ} {n i : Nat} {g : Γ → Unit} (hn : S.n + 1 = n) (hT : HasT E) (hi : GetS E i sDice g) (ha : SA md0 E S ta ma) : SE md0 E R (tCallG (spOfDT S R m) n (tCons (tVar i) ta)) fun ρ => (ma ρ).bind m := fun k F H σ ρ c Q w e h => by
  obtain ⟨o, h1, p, rfl, hp⟩ := hi.get e.r
  refine ⟨.ref p, h1, ha k F H σ ρ c _ w e (wp_imp h fun a c1 q vs F1 H1 x1 w1 r1 => ?_)⟩
  refine ⟨by rw [List.length_cons, S.len r1]; exact hn, ?_⟩
  obtain ⟨d1, _, d2⟩ := w1.dice p hp
  exact ⟨F1, p, vs, a, c1, rfl, w1.sub, hT.t (e.step x1).r, d1, d2, r1, (m a).mono c1 (fun b c' z v F' H' x f d r => z v F' H' (x1.trans (w1.callD hp x f d).1) (w1.callD hp x f d).2 r) (fun _ z => XP.no w1 z) q⟩
end
section
variable {Γ Γ' Δ α β γ κ : Type} {μ : Md} {E : EV Γ} {E' : EV Γ'} {El : EV Δ} {Ra : Rp α} {Rb : Rp β} {R : Rp γ} {Rk : Rp κ} {kf : κ → L2.Key} {K : PySem.W.Frag} [DecidableEq κ]
def ddrop (l : List (κ × β)) (k : κ) : List (κ × β) := l.filter fun p => decide (p.1 ≠ k)
theorem AllD.drop {f : V → β → Prop} (inj : ∀ {a b : κ}, kf a = kf b → a = b) {kvs : List (L2.Key × V)} {l : List (κ × β)} (h : AllD kf f kvs l) (k : κ) : AllD kf f (dropK kvs (kf k)) (ddrop l k) := by
  unfold dropK ddrop
  induction h with
  | nil => exact .nil
  | @cons v k' a kvs l h t ih =>
    rw [List.filter_cons, List.filter_cons]
    by_cases c : k' = k
    · rw [if_neg (by simp [c]), if_neg (by simp [c])]; exact ih
    · have c1 : decide ((kf k', v).1 ≠ kf k) = true := decide_eq_true fun z => c (inj z)
      have c2 : decide ((k', a).1 ≠ k) = true := decide_eq_true c
      rw [if_pos c1, if_pos c2]; exact .cons h ih
end
end PF
set_option maxHeartbeats 4000000
namespace PF
open PySem PySem.Spec PyProof.Rows L2 SlX
section
variable {Γ α β γ δ : Type} {μ : Md} {E : EV Γ} {Ra : Rp α} {Rb : Rp β} {R : Rp γ} {K : PySem.W.Frag}
def rUn (Ra : Rp α) (Rb : Rp β) : Rp (α ⊕ β) := ⟨fun F v s => match s with
  | .inl a => Ra.r F v a
  | .inr b => Rb.r F v b, fun {F F' v s} h q => by
  cases s with
  | inl a => exact Ra.st h q
  | inr b => exact Rb.st h q⟩
theorem coe_l {F : Hp} {v : V} {a : α} (h : Ra.r F v a) : (rUn Ra Rb).r F v (.inl a) := h
theorem coe_r {F : Hp} {v : V} {b : β} (h : Rb.r F v b) : (rUn Ra Rb).r F v (.inr b) := h
def sumE (m : α → M γ) (n : β → M γ) : α ⊕ β → M γ
  | .inl a => m a
  | .inr b => n b
theorem cas_un {r : List V → Hp → VK → Prop} {S : RA δ} {m1 : α × δ → M γ} {m2 : β × δ → M γ} (h1 : CaS μ r (aCons Ra S) R m1) (h2 : CaS μ r (aCons Rb S) R m2) : CaS μ r (aCons (rUn Ra Rb) S) R fun a => sumE (fun x => m1 (x, a.2)) (fun y => m2 (y, a.2)) a.1 := fun k F H c vs a Q w rr q => by
  obtain ⟨a1, a2⟩ := a
  cases a1 with
  | inl x => exact h1 k F H c vs (x, a2) Q w rr q
  | inr y => exact h2 k F H c vs (y, a2) Q w rr q
theorem pe_never {X : Cx} {e : Expr} : PE X e (fun _ _ _ => False) := ⟨fun pins s σ H Q I h => h.elim⟩
theorem e_never : SE μ E Ra (fun _ _ _ => False) fun _ => M.none := fun k F H σ ρ c Q w e q => q.elim
end
section
variable {Γ κ α β : Type} {μ : Md} {E : EV Γ} {Ra : Rp α} {Rb : Rp β} {kf : κ → L2.Key}
theorem AllD.un {F : Hp} {kvs : List (L2.Key × V)} {l : List (κ × α)} (h : AllD kf (Ra.r F) kvs l) : AllD kf ((rUn Ra Rb).r F) kvs (l.map fun p => (p.1, Sum.inl p.2)) := by
  induction h with
  | nil => exact .nil
  | cons h _ ih => exact .cons h ih
end
end PF
set_option maxHeartbeats 1000000
namespace PF
open PySem PySem.Spec PyProof.Rows L2 SlX
def lftS {α β : Type} : α ⊕ β → Option α
  | .inl a => some a
  | .inr _ => none
theorem un_get {α β : Type} {Ra : Rp α} {Rb : Rp β} {F : Hp} {v : V} {u : α ⊕ β} {a : α} (h : (rUn Ra Rb).r F v u) (e : lftS u = some a) : Ra.r F v a := by
  cases u with
  | inl x => cases e; exact h
  | inr x => cases e
end PF
namespace L2
open PySem PySem.Spec PyProof.Rows
section
variable {X : Cx} {CX : CXT} {k n : Nat} {f C : Addr} {fd : FuncData} {ps ks : List Str} {sp : Sp} {E : XK} {x : Str} {p pos : Pos} {e : Expr} {es : List Expr} {kws : List Keyword} {t tk : TA} {g : List Value → List Value → List Value} {gV : List V → List V → List V} {ds : List Value} {dvs : List V}
theorem run_makeA {pins : List (Addr × Obj)} {σ : St} {H : Hp} {s : Shared} {Q : VK} {us : List Value} {vs : List V} (M : Mk X.K C f) (F : FnOk X.prog X.w X.K X.mg X.base CX k f fd ps sp) (hr : Room (k + 1) X.A) (hb : Binds X.K fd ps ds) (hd : Vals dvs ds)
    (hx : PassesAt CX X σ E) (I : Inv X pins σ H s) (r : Vals vs us)
    (h : ∀ x dx, H x = none → H dx = none → dx ≠ x → sp (.ref x :: (vs ++ dvs)) (upd (upd H dx (.own x)) x (.ins C dx [])) (fun v H2 => v = .non ∧ Q (.ref x) H2) E) :
    wpAny (model X.prog X.w) X.A (call (.ref C) us) (EP X pins σ Q) X.xe s := by
  have hq := h (s.heap.objs.size + 1) s.heap.objs.size (I.hok.fresh (Nat.le_succ _)) (I.hok.fresh (Nat.le_refl _)) (Nat.ne_of_lt (Nat.lt_succ_self _))
  have I2 := Inv.made (C := C) I
  have r2 : Vals (V.ref (s.heap.objs.size + 1) :: (vs ++ dvs)) (Value.ref (s.heap.objs.size + 1) :: (us ++ ds)) := .cons rfl (r.append hd)
  have hl : (Value.ref (s.heap.objs.size + 1) :: us ++ ds).length = ps.length := by
    have e := r2.length
    rw [F.len _ _ _ _ hq] at e
    exact e.symm
  refine wpAny_call (make_map (f := f) I.kIn M.makes M.init (beq_iff_eq.mp M.fn) (codeAny_mono (F.run _ X.stack _ _ ⟨Value.ref (s.heap.objs.size + 1) :: us, []⟩ (Value.ref (s.heap.objs.size + 1) :: (us ++ ds)) _ _ E (hr.make C us [])
    (I2.env0.make C us []) (hb _ (Value.ref (s.heap.objs.size + 1) :: us) I2.kIn hl) r2 hq) fun r s' hq' => ?_))
  cases r with
  | error e => exact hx pins _ _ e s' I2 hq'
  | ok fl =>
    cases fl with
    | ret u =>
      obtain ⟨v, H', I3, rv, ev, q3⟩ := I2.after hq'
      subst ev
      exact ⟨rv, ⟨V.ref (s.heap.objs.size + 1), H', I3, rfl, q3⟩⟩
    | next => exact False.elim hq'
    | brk => exact False.elim hq'
    | cont => exact False.elim hq'
def tMakeS (C : Addr) (sp : Sp) (dvs : List V) (E : St → XK) (t : TA) : TE := fun σ H Q => tMake C sp dvs (E σ) t σ H Q
theorem pe_makeS {E : St → XK} (M : Mk X.K C f) (F : FnOk X.prog X.w X.K X.mg X.base CX k f fd ps sp) (hr : Room (k + 1) X.A) (hg : Gl X x) (hm : X.mg x = some (.ref C)) (hb : Binds X.K fd ps ds) (hd : Vals dvs ds) (hx : ∀ σ, PassesAt CX X σ (E σ))
    (ha : PA X (e :: es) t) (hdb : (x == ("__debug__" : Str)) = false := by decide) (he : starEach (e :: es) X.env = (false, eval e X.env) :: starEach es X.env := by rfl) (hpl : (backTo pos (starEach es X.env)).any (·.1) = false := by rfl) :
    PE X (.Call (.Name x p) (e :: es) [] pos) (tMakeS C sp dvs E t) := by
  refine ⟨fun pins s σ H Q I h => ?_⟩
  refine wpAny_Call_Name_kw (ld_glob I hg hm ?_ hdb)
  refine PySem.W.callWith_K (h₀ := X.base) I.ok.mod.kin M.kp (thn (ha.run pos pins s σ H _ I h) fun us s1 ⟨vs, H1, I1, r, q⟩ => ⟨I1.kIn, ?_⟩) he hpl
  exact run_makeA M F hr hb hd (hx σ) I1 r q
theorem run_makeNA {pins : List (Addr × Obj)} {σ : St} {H : Hp} {s : Shared} {Q : VK} {us ws : List Value} {vs zs : List V} (M : Mk X.K C f) (F : FnOk X.prog X.w X.K X.mg X.base CX k f fd ps sp) (hr : Room (k + 1) X.A) (hb : KBn X.K fd ps (n + 1) ks g gV)
    (hx : PassesAt CX X σ E) (I : Inv X pins σ H s) (r : Vals vs us) (rz : Vals zs ws) (l1 : vs.length = n) (l2 : zs.length = ks.length)
    (h : ∀ x dx, H x = none → H dx = none → dx ≠ x → sp (gV (.ref x :: vs) zs) (upd (upd H dx (.own x)) x (.ins C dx [])) (fun v H2 => v = .non ∧ Q (.ref x) H2) E) :
    wpAny (model X.prog X.w) X.A (call (.ref C) us (ks.zip ws)) (EP X pins σ Q) X.xe s := by
  have hq := h (s.heap.objs.size + 1) s.heap.objs.size (I.hok.fresh (Nat.le_succ _)) (I.hok.fresh (Nat.le_refl _)) (Nat.ne_of_lt (Nat.lt_succ_self _))
  have I2 := Inv.made (C := C) I
  have r1 : Vals (V.ref (s.heap.objs.size + 1) :: vs) (Value.ref (s.heap.objs.size + 1) :: us) := .cons rfl r
  have r2 := hb.rel r1 rz
  have e1 : (Value.ref (s.heap.objs.size + 1) :: us).length = n + 1 := r1.length.symm.trans (congrArg Nat.succ l1)
  have e2 : ws.length = ks.length := rz.length.symm.trans l2
  refine wpAny_call (make_map (f := f) I.kIn M.makes M.init (beq_iff_eq.mp M.fn) (codeAny_mono (F.run _ X.stack _ _ ⟨Value.ref (s.heap.objs.size + 1) :: us, ks.zip ws⟩ (g (Value.ref (s.heap.objs.size + 1) :: us) ws) _ _ E (hr.make C us (ks.zip ws))
    (I2.env0.make C us (ks.zip ws)) (hb.to _ (Value.ref (s.heap.objs.size + 1) :: us) ws I2.kIn e1 e2) r2 hq) fun r s' hq' => ?_))
  cases r with
  | error e => exact hx pins _ _ e s' I2 hq'
  | ok fl =>
    cases fl with
    | ret u =>
      obtain ⟨v, H', I3, rv, ev, q3⟩ := I2.after hq'
      subst ev
      exact ⟨rv, ⟨V.ref (s.heap.objs.size + 1), H', I3, rfl, q3⟩⟩
    | next => exact False.elim hq'
    | brk => exact False.elim hq'
    | cont => exact False.elim hq'
def tMakeNS (C : Addr) (n m : Nat) (sp : Sp) (gV : List V → List V → List V) (E : St → XK) (t tk : TA) : TE := fun σ H Q => tMakeN C n m sp gV (E σ) t tk σ H Q
theorem pe_makeNS {E : St → XK} (M : Mk X.K C f) (F : FnOk X.prog X.w X.K X.mg X.base CX k f fd ps sp) (hr : Room (k + 1) X.A) (hg : Gl X x) (hm : X.mg x = some (.ref C)) (hb : KBn X.K fd ps (n + 1) ks g gV) (hx : ∀ σ, PassesAt CX X σ (E σ))
    (ha : PA X (e :: es) t) (hkw : PK X kws tk) (hall : (backToKw pos (keywordEach kws X.env)).all (·.1.isSome) = true := by rfl) (hks : (backToKw pos (keywordEach kws X.env)).filterMap (·.1) = ks := by rfl)
    (hdb : (x == ("__debug__" : Str)) = false := by decide) (he : starEach (e :: es) X.env = (false, eval e X.env) :: starEach es X.env := by rfl)
    (hpl : ((backTo pos (starEach (e :: es) X.env)).any (·.1) || (backToKw pos (keywordEach kws X.env)).any (·.1.isNone)) = false := by rfl) :
    PE X (.Call (.Name x p) (e :: es) kws pos) (tMakeNS C n ks.length sp gV E t tk) := by
  refine ⟨fun pins s σ H Q I h => ?_⟩
  refine wpAny_Call_Name_kw (ld_glob I hg hm ?_ hdb)
  refine PySem.W.callWith_KW (h₀ := X.base) I.ok.mod.kin M.kp hall (thn (ha.run pos pins s σ H _ I h) fun us s1 ⟨vs, H1, I1, r, q⟩ => ?_) hpl he
  refine thn (hkw.run pos pins s1 σ H1 _ I1 q) fun ws s2 ⟨zs, H2, I2, rz, l1, l2, q2⟩ => ⟨I2.kIn, ?_⟩
  rw [hks]
  exact run_makeNA M F hr hb (hx σ) I2 r rz l1 l2 q2
theorem run_fnRA {pins : List (Addr × Obj)} {σ : St} {H : Hp} {s : Shared} {g : Addr} {Q : VK} {us : List Value} {vs : List V} (F : FnR X.prog X.w X.K X.mg X.base CX k g sp) (hr : Room k X.A) (hx : PassesAt CX X σ E) (I : Inv X pins σ H s) (r : Vals vs us) (h : sp vs H Q E) :
    codeAny (model X.prog X.w) X.A (.call (.ref g) ⟨us, []⟩) (fun r s' => match r with | .ok (.ret v) => EP X pins σ Q v s' | .ok _ => False | .error e => X.xe e s') s := by
  refine codeAny_mono (F X.A X.stack s H us vs Q E hr I.env0 r h) fun r s' hq => ?_
  cases r with
  | error e => exact hx pins H s e s' I hq
  | ok fl =>
    cases fl with
    | ret u => exact I.after hq
    | next => exact False.elim hq
    | brk => exact False.elim hq
    | cont => exact False.elim hq
def tOpS (r : St → R2) (ta tb : TE) : TE := fun σ H Q => tOp (r σ) ta tb σ H Q
theorem pe_opS {op : Operator} {r : St → R2} {a b : Expr} {ta tb : TE} (ho : ∀ (pins : List (Addr × Obj)) (s : Shared) (σ : St) (H : Hp) (x y : V) (v u : Value) (Q : VK), Inv X pins σ H s → RelV x v → RelV y u → r σ x y H Q → wpAny (model X.prog X.w) X.A (binaryOp op v u) (EP X pins σ Q) X.xe s) (ha : PE X a ta) (hb : PE X b tb) : PE X (.BinOp a op b pos) (tOpS r ta tb) := by
  refine ⟨fun pins s σ H Q I h => ?_⟩
  exact wpAny_BinOp (binT ha hb I h fun v u s2 x y H2 I2 rx ry q => ho pins s2 σ H2 x y v u Q I2 rx ry q)
end
end L2
namespace PF
open PySem PySem.Spec PyProof.Rows L2 SlX
structure GMX (P : Program) (w : World) (K : PySem.W.Frag) (mg : Str → Option Value) (base : Heap) (x : Str) (C : Addr) (k : Nat) (dvs : List V) (sp : Sp) : Prop where
  ex : ∃ f fd ps ds, mg x = some (.ref C) ∧ Mk K C f ∧ Binds K fd ps ds ∧ Vals dvs ds ∧ FnOk P w K mg base (L2.CX P w) k f fd ps sp
structure GMKX (P : Program) (w : World) (K : PySem.W.Frag) (mg : Str → Option Value) (base : Heap) (x : Str) (C : Addr) (k n : Nat) (ks : List Str) (gV : List V → List V → List V) (sp : Sp) : Prop where
  ex : ∃ f fd ps g, mg x = some (.ref C) ∧ Mk K C f ∧ KBn K fd ps (n + 1) ks g gV ∧ FnOk P w K mg base (L2.CX P w) k f fd ps sp
section
variable {X : Cx} {k n : Nat} {sp : Sp} {x : Str} {C : Addr} {dvs : List V} {p pos : Pos} {e : Expr} {es : List Expr} {kws : List Keyword} {t tk : TA} {W : WX} {ks : List Str} {gV : List V → List V → List V}
theorem pe_mX (tk : Takes X W) (G : GMX X.prog X.w X.K X.mg X.base x C k dvs sp) (hr : Room (k + 1) X.A) (ha : PA X (e :: es) t) (gl : Gl X x := by rfl) (hdb : (x == ("__debug__" : Str)) = false := by decide)
    (he : starEach (e :: es) X.env = (false, eval e X.env) :: starEach es X.env := by rfl) (hpl : (backTo pos (starEach es X.env)).any (·.1) = false := by rfl) : PE X (.Call (.Name x p) (e :: es) [] pos) (tMakeS C sp dvs (WE W) t) := by
  obtain ⟨f, fd, ps, ds, h1, h2, h3, h4, h5⟩ := G.ex
  exact pe_makeS h2 h5 hr gl h1 h3 h4 (fun σ => passAt tk σ) ha hdb he hpl
theorem pe_mKX (tk : Takes X W) {ta : TA} (G : GMKX X.prog X.w X.K X.mg X.base x C k n ks gV sp) (hr : Room (k + 1) X.A) (ha : PA X (e :: es) t) (hkw : PK X kws ta) (gl : Gl X x := by rfl)
    (hall : (backToKw pos (keywordEach kws X.env)).all (·.1.isSome) = true := by rfl) (hks : (backToKw pos (keywordEach kws X.env)).filterMap (·.1) = ks := by rfl)
    (hdb : (x == ("__debug__" : Str)) = false := by decide) (he : starEach (e :: es) X.env = (false, eval e X.env) :: starEach es X.env := by rfl)
    (hpl : ((backTo pos (starEach (e :: es) X.env)).any (·.1) || (backToKw pos (keywordEach kws X.env)).any (·.1.isNone)) = false := by rfl) : PE X (.Call (.Name x p) (e :: es) kws pos) (tMakeNS C n ks.length sp gV (WE W) t ta) := by
  obtain ⟨f, fd, ps, g, h1, h2, h3, h4⟩ := G.ex
  exact pe_makeNS h2 h4 hr gl h1 h3 (fun σ => passAt tk σ) ha hkw hall hks hdb he hpl
end
theorem fnR_ofA {P : Program} {w : World} {CX : CXT} {K : PySem.W.Frag} {mg : Str → Option Value} {base : Heap} {k : Nat} {f : Addr} {fd : FuncData} {ps : List Str} {sp : Sp} (F : FnOk P w K mg base CX k f fd ps sp) (b : Binds K fd ps []) : FnR P w K mg base CX k f sp := fun Ar out st G us vs R E hr e0 r h => by
  have KX : K.In st.heap := e0.mod.kin.keeps fun b o e => (e0.bs b o e).1
  have l2 : us.length = ps.length := r.length.symm.trans (F.len _ _ _ _ h)
  have b2 := b st us KX (by simpa using l2)
  rw [List.append_nil] at b2
  exact F.run Ar out st G ⟨us, []⟩ us vs R E hr e0 b2 r h
structure GBX (P : Program) (w : World) (K : PySem.W.Frag) (mg : Str → Option Value) (base : Heap) (C : Addr) (op : Operator) (k : Nat) (sp : Sp) : Prop where
  ex : ∃ g, PySem.W.findIn K (.ref C) (PySem.dunder op.info.2) = some (some (.ref g)) ∧ PySem.W.isFn K (.ref g) = true ∧ FnR P w K mg base (L2.CX P w) k g sp
  first : PySem.W.selfFirst K C = true
structure GMeX (P : Program) (w : World) (K : PySem.W.Frag) (mg : Str → Option Value) (base : Heap) (C : Addr) (m : Str) (k : Nat) (sp : Sp) : Prop where
  ex : ∃ g, Meth K C m g ∧ FnR P w K mg base (L2.CX P w) k g sp
def rBinX (C : Addr) (sp : Sp) (E : L2.St → XK) : L2.St → R2 := fun σ x y H Q => ∃ a dx vs b dy ws, x = .ref a ∧ y = .ref b ∧ Slt H a C dx vs ∧ Slt H b C dy ws ∧ sp [x, y] H Q (E σ)
def tMethX (C : Addr) (sp : Sp) (E : L2.St → XK) (ta : TE) (t : TA) : TE := fun σ H Q => tMethSl C sp (E σ) ta t σ H Q
section
variable {X : Cx} {k : Nat} {sp : Sp} {C : Addr} {p pos apos : Pos} {o e : Expr} {es : List Expr} {ta tb : TE} {t : TA} {W : WX} {m : Str}
theorem pe_bX {op : Operator} {a b : Expr} (tk : Takes X W) (G : GBX X.prog X.w X.K X.mg X.base C op k sp) (hr : Room k X.A) (ha : PE X a ta) (hb : PE X b tb) : PE X (.BinOp a op b pos) (tOpS (rBinX C sp (WE W)) ta tb) := by
  obtain ⟨g, h2, h3, F⟩ := G.ex
  refine pe_opS (fun pins st sg HH x y v u Qk J rx ry k => ?_) ha hb
  obtain ⟨a, dx, vs, b, dy, ws, rfl, rfl, sa, sb, k⟩ := k
  cases (show v = Value.ref a from rx)
  cases (show u = Value.ref b from ry)
  obtain ⟨_, _, _, ja, _⟩ := slt_inst J sa
  obtain ⟨_, _, _, jb, _⟩ := slt_inst J sb
  obtain ⟨_, fr⟩ := J.fr
  refine PySem.W.binop_K fr J.ok.mod.kin ja jb.type G.first h2 h3 ?_
  exact wpAny_mono (wpAny_call (run_fnRA (us := [.ref a, .ref b]) (vs := [.ref a, .ref b]) F hr (passAt tk sg) J (.cons rfl (.cons rfl .nil)) k))
    (fun _ _ ⟨z, H3, J3, rz, k3⟩ => cmpback rz ⟨z, H3, J3, rz, k3⟩) fun _ _ e => e
theorem pe_meX {pl : Sem Bool} (tk : Takes X W) (c : SCls X.K C) (G : GMeX X.prog X.w X.K X.mg X.base C m k sp) (hr : Room k X.A) (he : PE X o ta) (ha : PA X (e :: es) t)
    (hst : starEach (e :: es) X.env = (false, eval e X.env) :: starEach es X.env := by rfl) (hpl : (backTo pos (starEach es X.env)).any (·.1) = false := by rfl)
    (ht : eval (.Call (.Attribute o m apos) (e :: es) [] pos) X.env = (do
      let ov ← eval o X.env
      standAt apos.atName
      let (f, first) ← holding [ov] (getMethod ov m pl)
      callWith pos f first (backTo pos (starEach (e :: es) X.env)) (backToKw pos (keywordEach [] X.env))) := by rfl) :
    PE X (.Call (.Attribute o m apos) (e :: es) [] pos) (tMethX C sp (WE W) ta t) := by
  obtain ⟨g, hm, F⟩ := G.ex
  refine ⟨fun pins s σ H Q I h => ?_⟩
  refine PySem.W.methodCall_KW (pl := pl) (thn (he.run pins s σ H _ I h) fun u s1 ⟨x, H1, I1, rx, a, dx, vs, ex, hsl, q⟩ => ?_) ht
  subst ex
  obtain rfl : u = Value.ref a := rx
  refine getmethsl_ok I1 hsl c hm ?_
  refine PySem.W.callWith_K (first := [.ref a]) (h₀ := X.base) I.ok.mod.kin hm.kp (thn (ha.run pos pins s1 σ H1 _ I1 q) fun us s2 ⟨ws, H2, I2, r, q2⟩ => ⟨I2.kIn, ?_⟩) hst hpl
  exact wpAny_call (run_fnRA (us := .ref a :: us) (vs := .ref a :: ws) F hr (passAt tk σ) I2 (.cons rfl r) q2)
end
section
variable {Γ Γ' Γ'' Δ Δ' α β γ δ : Type} {μ : Md} {E : EV Γ} {E' : EV Γ'} {E'' : EV Γ''} {El : EV Δ} {El' : EV Δ'} {Ra : Rp α} {Rb : Rp β} {R : Rp γ} {mg : Str → Option Value} {fl : Str → Option Str} {XE : XK} {K : PySem.W.Frag}
theorem e_mkX {S : RA α} {S' : RA β} {C : Addr} {m : Unit × β → M Unit} {j : α → β} {dvs : List V} {W : WX} {ta : TA} {ma : Γ → M α} (hW : ∀ {p : Option Addr} {H0 F H : Hp} {σ : L2.St} {ρ : Γ}, E.r p H0 F H σ ρ → WE W σ = XE)
    (hj : ∀ {F : Hp} {vs : List V} {a : α}, S.r F vs a → S'.r F (vs ++ dvs) (j a)) (ha : SA (mdF K mg fl XE) E S ta ma) : SE (mdF K mg fl XE) E R (tMakeS C (spOfF K mg fl (aCons rAny S') rNon m) dvs (WE W) ta) fun ρ => (ma ρ).bind fun a => ((m ((), j a)).still).bind fun _ => M.none := fun k F H σ ρ c Q w e h =>
  ha k F H σ ρ c _ w e (wp_imp h fun a c1 q vs F1 H1 x1 w1 r1 => by
    show ∀ x dx, H1 x = Option.none → H1 dx = Option.none → dx ≠ x → spOfF K mg fl (aCons rAny S') rNon m (V.ref x :: (vs ++ dvs)) (upd (upd H1 dx (.own x)) x (.ins C dx [])) (fun v H2 => v = .non ∧ Q (.ref x) H2) (WE W σ)
    intro x dx nx nd ne
    rw [hW e.r]
    have w2 := (w1.own nd (.own x)).own (q := x) (by rw [upd_ne fun z => ne z.symm]; exact nx) (.ins C dx [])
    exact ⟨F1, ((), j a), w2.sub, ⟨_, _, rfl, trivial, hj r1⟩, (m ((), j a)).mono 0 (fun b _ z => z.elim) (fun er z cls d F' H' y hc => z cls d F' H' (w2.ext.trans (w2.call y).1) hc) q⟩)
theorem e_mkNX {S1 : RA α} {S2 : RA δ} {S' : RA β} {C : Addr} {n l : Nat} {m : Unit × β → M Unit} {j : α → δ → β} {gV : List V → List V → List V} {gW : List V → List V → List V} {W : WX} {ta tk : TA} {ma : Γ → M α} {mk : Γ → M δ} (hW : ∀ {p : Option Addr} {H0 F H : Hp} {σ : L2.St} {ρ : Γ}, E.r p H0 F H σ ρ → WE W σ = XE)
    (hg : ∀ v vs zs, gV (v :: vs) zs = v :: gW vs zs) (hj : ∀ {F : Hp} {vs zs : List V} {a : α} {b : δ}, S1.r F vs a → S2.r F zs b → S'.r F (gW vs zs) (j a b)) (hn : S1.n = n) (hl : S2.n = l)
    (ha : SA (mdF K mg fl XE) E S1 ta ma) (hk : SA (mdF K mg fl XE) E S2 tk mk) : SE (mdF K mg fl XE) E R (tMakeNS C n l (spOfF K mg fl (aCons rAny S') rNon m) gV (WE W) ta tk) fun ρ => (ma ρ).bind fun a => (mk ρ).bind fun b => ((m ((), j a b)).still).bind fun _ => M.none := fun k F H σ ρ c Q w e h =>
  ha k F H σ ρ c _ w e (wp_imp h fun a c1 q vs F1 H1 x1 w1 r1 => hk k F1 H1 σ ρ c1 _ w1 (e.step x1) (wp_imp q fun b c2 q zs F2 H2 x2 w2 r2 => by
    have r1 := S1.st x2.fz r1
    refine ⟨by rw [S1.len r1, hn], by rw [S2.len r2, hl], ?_⟩
    intro x dx nx nd ne
    rw [hW e.r, hg]
    have w3 := (w2.own nd (.own x)).own (q := x) (by rw [upd_ne fun z => ne z.symm]; exact nx) (.ins C dx [])
    exact ⟨F2, ((), j a b), w3.sub, ⟨_, _, rfl, trivial, hj r1 r2⟩, (m ((), j a b)).mono 0 (fun b _ z => z.elim) (fun er z cls d F' H' y hc => z cls d F' H' (w3.ext.trans (w3.call y).1) hc) q⟩))
theorem e_binX {C : Addr} {m : α × β × Unit → M γ} {W : WX} {ta tb : TE} {ma : Γ → M α} {mb : Γ → M β} (hs : SlR1 Ra C) (ht : SlR1 Rb C) (hW : ∀ {p : Option Addr} {H0 F H : Hp} {σ : L2.St} {ρ : Γ}, E.r p H0 F H σ ρ → WE W σ = XE)
    (ha : SE (mdF K mg fl XE) E Ra ta ma) (hb : SE (mdF K mg fl XE) E Rb tb mb) : SE (mdF K mg fl XE) E R (tOpS (rBinX C (spOfF K mg fl (a2 Ra Rb) R m) (WE W)) ta tb) fun ρ => (ma ρ).bind fun a => (mb ρ).bind fun b => (m (a, b, ())).still := fun k F H σ ρ c Q w e h =>
  ha k F H σ ρ c _ w e (wp_imp h fun a c1 q x F1 H1 x1 w1 r1 => hb k F1 H1 σ ρ c1 _ w1 (e.step x1) (wp_imp q fun b c2 q y F2 H2 x2 w2 r2 => by
    have r1 := Ra.st x2.fz r1
    obtain ⟨p1, d1, v1, e1, s1⟩ := hs.at_ r1
    obtain ⟨p2, d2, v2, e2, s2⟩ := ht.at_ r2
    refine ⟨p1, d1, v1, p2, d2, v2, e1, e2, slt_same w2.sub s1, slt_same w2.sub s2, ?_⟩
    rw [hW e.r]
    exact ⟨F2, (a, b, ()), w2.sub, ⟨_, _, rfl, r1, _, _, rfl, r2, rfl⟩, (m (a, b, ())).mono 0 (fun b _ z v F' H' x r => z v F' H' ((x1.trans x2).trans (w2.call x).1) (w2.call x).2 r) (fun er z cls d F' H' x hc => z cls d F' H' (w2.ext.trans (w2.call x).1) hc) q⟩))
theorem e_meX {C : Addr} {S : RA β} {m : α × β → M γ} {W : WX} {ta : TE} {t : TA} {ma : Γ → M α} {mb : Γ → M β} (hs : SlR1 Ra C) (hW : ∀ {p : Option Addr} {H0 F H : Hp} {σ : L2.St} {ρ : Γ}, E.r p H0 F H σ ρ → WE W σ = XE)
    (ha : SE (mdF K mg fl XE) E Ra ta ma) (hb : SA (mdF K mg fl XE) E S t mb) : SE (mdF K mg fl XE) E R (tMethX C (spOfF K mg fl (aCons Ra S) R m) (WE W) ta t) fun ρ => (ma ρ).bind fun a => (mb ρ).bind fun b => (m (a, b)).still := fun k F H σ ρ c Q w e h =>
  ha k F H σ ρ c _ w e (wp_imp h fun a c1 q x F1 H1 x1 w1 r1 => by
    obtain ⟨p1, d1, v1, e1, s1⟩ := hs.at_ r1
    refine ⟨p1, d1, v1, e1, slt_same w1.sub s1, hb k F1 H1 σ ρ c1 _ w1 (e.step x1) (wp_imp q fun b c2 q vs F2 H2 x2 w2 r2 => ?_)⟩
    have r1 := Ra.st x2.fz r1
    show spOfF K mg fl (aCons Ra S) R m (x :: vs) H2 Q (WE W σ)
    rw [hW e.r]
    exact ⟨F2, (a, b), w2.sub, ⟨_, _, rfl, r1, r2⟩, (m (a, b)).mono 0 (fun b _ z v F' H' x r => z v F' H' ((x1.trans x2).trans (w2.call x).1) (w2.call x).2 r) (fun er z cls d F' H' x hc => z cls d F' H' (w2.ext.trans (w2.call x).1) hc) q⟩)
end
end PF
namespace L2
open PySem PySem.Spec PyProof.Rows
section
variable {P : Program} {w : World} {K : PySem.W.Frag} {mg : Str → Option Value} {base : Heap} {x qual : Str} {params : Arguments} {body : List Stmt} {scope : Scope} {dvs : List V} {kws : List (Str × V)} {f : Addr} {fd : FuncData}
theorem FunD.okX {N ps : List Str} {k : Nat} {sp : Sp} (F : FunD K x qual params body scope dvs kws f fd) (S : FnScope N ps scope) (len : ∀ vs H Q E, sp vs H Q E → vs.length = ps.length)
    (hbody : ∀ (cdv : Value) (A : Around) (outer : List Env) (s : Shared) (H : Hp) (vs : List V) (Q : VK) (E : XK), Room k (A.deeper (envOfC qual scope s.heap.objs.size f cdv)) → sp vs H Q E →
      ∃ t, PSs (cxOf (L2.CX P w) P w K mg base N qual scope f cdv A outer s H E) body t ∧ t { nx := fun _ H' => Q .non H', rt := Q } (start N vs) H) : FnOk P w K mg base (L2.CX P w) (k + 1) f fd ps sp := F.ok S len hbody
end
end L2
namespace PF
open PySem PySem.Spec PyProof.Rows L2 SlX
def rgtS {α β : Type} : α ⊕ β → Option β
  | .inl _ => none
  | .inr b => some b
theorem un_getR {α β : Type} {Ra : Rp α} {Rb : Rp β} {F : Hp} {v : V} {u : α ⊕ β} {b : β} (h : (rUn Ra Rb).r F v u) (e : rgtS u = some b) : Rb.r F v b := by
  cases u with
  | inl x => cases e
  | inr x => cases e; exact h
section
variable {α β γ δ : Type} {μ : Md} {Ra : Rp α} {Rb : Rp β} {Rc : Rp δ} {R : Rp γ} {K : PySem.W.Frag} {C CN : Addr}
theorem odt_of (O : OdT K C) (d : PyData) : PySem.W.kitOne K (.type (tyD d)) (.ref C) = some false ∧ PySem.W.notFirst K C (.type (tyD d)) = true := O.k _ (by cases d <;> simp [tyD])
theorem c_isiDtC (O : OdT K C) : CaS μ (rIsiU K) (a2 (rDt K) (rCls C)) rBl fun _ => .ret false := fun k F H c vs a Q w r q => by
  obtain ⟨v, x, e, r1, r2⟩ := two r
  exact ⟨v, .ref C, .type (tyD a.1), .ref C, false, by rw [e, show x = .ref C from r2], .own C, dpE_ty w.sub r1, (odt_of O a.1).1, VP.now w q rfl⟩
theorem op_orE {X : Cx} {f : Value → Value → Sem Value} {r1 r2 : R2} (h1 : OpR X f r1) (h2 : OpR X f r2) : OpR X f fun x y H Q => r1 x y H Q ∨ r2 x y H Q := fun pins s σ H x y v u Q I rx ry hq => hq.elim (h1 pins s σ H x y v u Q I rx ry) (h2 pins s σ H x y v u Q I rx ry)
theorem o_un {r1 r2 : R2} {m1 : α → δ → M γ} {m2 : β → δ → M γ} (h1 : OpS μ r1 Ra Rc R m1) (h2 : OpS μ r2 Rb Rc R m2) : OpS μ (fun x y H Q => r1 x y H Q ∨ r2 x y H Q) (rUn Ra Rb) Rc R fun a b => sumE (fun x => m1 x b) (fun y => m2 y b) a := fun k F H c x y a b Q w hx hy q => by
  cases a with
  | inl a => exact .inl (h1 k F H c x y a b Q w hx hy q)
  | inr a => exact .inr (h2 k F H c x y a b Q w hx hy q)
theorem sl_num : SlR1 (rNum CN) CN := ⟨fun h => by
  obtain ⟨p, dx, e, s⟩ := h
  exact ⟨p, dx, _, e, s⟩⟩
end
theorem all_map {α β : Type} {Ra : Rp α} {Rb : Rp β} {f : α → β} (h : ∀ {F : Hp} {v : V} {a : α}, Ra.r F v a → Rb.r F v (f a)) {F : Hp} : ∀ {vs : List V} {xs : List α}, All2 (Ra.r F) vs xs → All2 (Rb.r F) vs (xs.map f)
  | _, _, .nil => .nil
  | _, _, .cons r t => .cons (h r) (all_map h t)
theorem tup_map {α β : Type} {Ra : Rp α} {Rb : Rp β} {K : PySem.W.Frag} {f : α → β} (h : ∀ {F : Hp} {v : V} {a : α}, Ra.r F v a → Rb.r F v (f a)) {F : Hp} {v : V} {xs : List α} : (rTup K Ra).r F v xs → (rTup K Rb).r F v (xs.map f)
  | ⟨p, vs, e, hp, al⟩ => ⟨p, vs, e, hp, all_map h al⟩
theorem dt_coe {α : Type} {Ra : Rp α} {K : PySem.W.Frag} {d : α → PyData} {n : Nat} (hd : DpR K Ra d n) {F : Hp} {v : V} {a : α} (h : Ra.r F v a) : (rDt K).r F v (d a) := .inl (hd.dp h)
section
variable {Γ : Type} {E : EV Γ}
theorem e_signSum {t : TA} {ma : Γ → M (Int × Int × Int × Unit)} (ha : SA md0 E (aCons rInt (aCons rInt (aCons rInt aNil))) t ma) : SE md0 E rInt (tCall spSignSum [] E0 t) fun ρ => (ma ρ).bind fun a => .need (Bd 1000000 a.1 ∧ Bd 1000000 a.2.1 ∧ Bd 10 a.2.2.1) (.ret (sgnSum a.1 a.2.1 a.2.2.1)) := fun k F H σ ρ c Q w e h =>
  ha k F H σ ρ c _ w e (wp_imp h fun a c1 ⟨⟨q1, q2, q3⟩, q⟩ vs F1 H1 x1 w1 r1 => by
    obtain ⟨v, vs, rfl, r1, u, us, rfl, r2, x, xs, rfl, r3, r4⟩ := r1
    obtain rfl : v = .int a.1 := r1
    obtain rfl : u = .int a.2.1 := r2
    obtain rfl : x = .int a.2.2.1 := r3
    obtain rfl : xs = [] := r4
    exact ⟨_, _, _, rfl, q1, q2, q3, q _ F1 H1 x1 w1 rfl⟩)
end
abbrev OVt := PyData ⊕ Nm
abbrev rOV (K : PySem.W.Frag) (CN : Addr) : Rp OVt := rUn (rDt K) (rNum CN)
abbrev iOV (i : Int) : OVt := .inl (.int i)
theorem ovI {K : PySem.W.Frag} {CN : Addr} {F : Hp} (i : Int) : (rOV K CN).r F (.int i) (iOV i) := .inl (.int i)
abbrev aOV4 (K : PySem.W.Frag) (CN : Addr) := aCons (rOV K CN) (aCons (rOV K CN) (aCons (rOV K CN) (aCons (rOV K CN) aNil)))
abbrev OV4 := OVt × OVt × OVt × OVt × Unit
def jN1 (a : OVt × Unit) : OV4 := (a.1, iOV 0, iOV 0, iOV 1, ())
def jN2 (a : OVt × OVt × Unit) : OV4 := (a.1, a.2.1, iOV 0, iOV 1, ())
def jNR (a : OVt × OVt × Unit) (b : OVt × Unit) : OV4 := (a.1, a.2.1, b.1, iOV 1, ())
def jNB (a : OVt × Unit) (b : OVt × Unit) : OV4 := (a.1, iOV 0, iOV 0, b.1, ())
def jNK (a : OVt × OVt × Unit) (b : OVt × OVt × Unit) : OV4 := (a.1, a.2.1, b.1, b.2.1, ())
section
variable {K : PySem.W.Frag} {CN : Addr} {F : Hp} {vs zs : List V}
theorem jn1 {a : OVt × Unit} (h : (a1 (rOV K CN)).r F vs a) : (aOV4 K CN).r F (vs ++ [.int 0, .int 0, .int 1]) (jN1 a) := by
  obtain ⟨v, rfl, h1⟩ := one h
  exact ⟨_, _, rfl, h1, _, _, rfl, ovI 0, _, _, rfl, ovI 0, _, _, rfl, ovI 1, rfl⟩
theorem jn2 {a : OVt × OVt × Unit} (h : (a2 (rOV K CN) (rOV K CN)).r F vs a) : (aOV4 K CN).r F (vs ++ [.int 0, .int 1]) (jN2 a) := by
  obtain ⟨v, u, rfl, h1, h2⟩ := two h
  exact ⟨_, _, rfl, h1, _, _, rfl, h2, _, _, rfl, ovI 0, _, _, rfl, ovI 1, rfl⟩
theorem jnR {a : OVt × OVt × Unit} {b : OVt × Unit} (h : (a2 (rOV K CN) (rOV K CN)).r F vs a) (k : (a1 (rOV K CN)).r F zs b) : (aOV4 K CN).r F (vs ++ zs ++ [.int 1]) (jNR a b) := by
  obtain ⟨v, u, rfl, h1, h2⟩ := two h
  obtain ⟨x, rfl, k1⟩ := one k
  exact ⟨_, _, rfl, h1, _, _, rfl, h2, _, _, rfl, k1, _, _, rfl, ovI 1, rfl⟩
theorem jnB {a : OVt × Unit} {b : OVt × Unit} (h : (a1 (rOV K CN)).r F vs a) (k : (a1 (rOV K CN)).r F zs b) : (aOV4 K CN).r F (vs ++ [.int 0] ++ [.int 0] ++ zs) (jNB a b) := by
  obtain ⟨v, rfl, h1⟩ := one h
  obtain ⟨x, rfl, k1⟩ := one k
  exact ⟨_, _, rfl, h1, _, _, rfl, ovI 0, _, _, rfl, ovI 0, _, _, rfl, k1, rfl⟩
theorem jnK {a : OVt × OVt × Unit} {b : OVt × OVt × Unit} (h : (a2 (rOV K CN) (rOV K CN)).r F vs a) (k : (a2 (rOV K CN) (rOV K CN)).r F zs b) : (aOV4 K CN).r F (vs ++ zs) (jNK a b) := by
  obtain ⟨v, u, rfl, h1, h2⟩ := two h
  obtain ⟨x, y, rfl, k1, k2⟩ := two k
  exact ⟨_, _, rfl, h1, _, _, rfl, h2, _, _, rfl, k1, _, _, rfl, k2, rfl⟩
end
end PF
set_option maxHeartbeats 400000
namespace PF
open PySem PySem.Spec PyProof.Rows L2 SlX
structure GMK (P : Program) (w : World) (K : PySem.W.Frag) (mg : Str → Option Value) (base : Heap) (x : Str) (C : Addr) (k n : Nat) (ks : List Str) (sp : Sp) : Prop where
  ex : ∃ f fd ps g, mg x = some (.ref C) ∧ Mk K C f ∧ KBn K fd ps (n + 1) ks g (fun vs zs => vs ++ zs) ∧ FnOk P w K mg base CX0 k f fd ps sp
theorem pe_mk {X : Cx} {k n : Nat} {ks : List Str} {sp : Sp} {x : Str} {C : Addr} {p pos : Pos} {e : Expr} {es : List Expr} {kws : List Keyword} {t tk : TA} (G : GMK X.prog X.w X.K X.mg X.base x C k n ks sp) (hr : Room (k + 1) X.A) (ha : PA X (e :: es) t) (hkw : PK X kws tk) (gl : Gl X x := by rfl)
    (hall : (backToKw pos (keywordEach kws X.env)).all (·.1.isSome) = true := by rfl) (hks : (backToKw pos (keywordEach kws X.env)).filterMap (·.1) = ks := by rfl)
    (hdb : (x == ("__debug__" : Str)) = false := by decide) (he : starEach (e :: es) X.env = (false, eval e X.env) :: starEach es X.env := by rfl)
    (hpl : ((backTo pos (starEach (e :: es) X.env)).any (·.1) || (backToKw pos (keywordEach kws X.env)).any (·.1.isNone)) = false := by rfl) : PE X (.Call (.Name x p) (e :: es) kws pos) (tMakeN C n ks.length sp (fun vs zs => vs ++ zs) E0 t tk) := by
  obtain ⟨f, fd, ps, g, h1, h2, h3, h4⟩ := G.ex
  exact pe_makeN h2 h4 hr gl h1 h3 pass0 ha hkw hall hks hdb he hpl
end PF
set_option maxHeartbeats 1000000
namespace PF
open PySem PySem.Spec PyProof.Rows L2 SlX
section
variable {Γ : Type} {E : EV Γ} {K : PySem.W.Frag} {CN CF : Addr}
theorem e_mkNumB {ta tr : TE} {ma mr : Γ → M Int} {m : Nat} (ha : SE md0 E rInt ta ma) (hr : SE md0 E rInt tr mr) (hm : 1 = m := by rfl) :
    SE md0 E (rNum CN) (tMakeN CN 1 m (spNumI CN CF) (fun vs zs => vs ++ [V.int 0] ++ [V.int 0] ++ zs) E0 (tCons ta tNil) (tCons tr tNil)) fun ρ => (ma ρ).bind fun a => (mr ρ).bind fun d => .need (d ≠ 0 ∧ Bd 9000 d) (.ret (mkNm a 0 0 d)) := fun k F H σ ρ c Q w e h =>
  ha k F H σ ρ c _ w e (wp_imp h fun a c1 q v1 F1 H1 x1 w1 r1 => hr k F1 H1 σ ρ c1 _ w1 (e.step x1) (wp_imp q fun d c3 ⟨⟨q1, q2⟩, q⟩ v3 F3 H3 x3 w3 r3 => by
    subst r1 r3
    exact ⟨rfl, hm, num_made (.inr ⟨a, 0, 0, d, rfl, q1, .inl ⟨rfl, rfl⟩, q2, rfl⟩) fun v H' s h => VP.same w3 (VP.ext (x1.trans x3) q) s (h.frz w3.sub)⟩))
end
end PF
set_option maxHeartbeats 4000000
namespace PF2
open PF PySem PySem.Spec PyProof.Rows L2 SlX
section
variable {P : Program} {w : World} {K : PySem.W.Frag} {mg : Str → Option Value} {base : Heap} {f CO CN CF CE : Addr} {fd : FuncData}
def flE (x : Str) : Option Str := none
theorem sc_is_whole : FnScope ["value"] ["value"] (defScope (topS 7)) := ⟨rfl, rfl, rfl, by decide +kernel, rfl, by decide +kernel, by decide +kernel⟩
noncomputable def b_is_whole_V (ρ : ((Sum PyData Nm) × Unit)) : M (Ct Unit Unit Bool) := (M.bind (M.bind (M.bind (M.bind (M.ret ρ.1) fun x3 => M.bind (M.bind (M.ret ()) fun x1 => M.bind (M.ret ()) fun x2 => M.ret (x1, x2)) fun x4 => M.ret (x3, x4)) fun r5 => (sumE (fun x => M.ret (isD "int" x)) (fun _ => M.ret false)) r5.1) fun x12 => M.ifb x12 (M.bind (M.bind (M.bind (M.ret ρ.1) fun x8 => M.bind (M.bind (M.ret ()) fun x6 => M.bind (M.ret ()) fun x7 => M.ret (x6, x7)) fun x9 => M.ret (x8, x9)) fun r10 => (sumE (fun x => M.ret (isD "bool" x)) (fun _ => M.ret false)) r10.1) fun x11 => M.ret (!x11)) (M.ret false)) fun x13 => M.ret (.rt x13))
noncomputable def m_is_whole_V (a : ((Sum PyData Nm) × Unit)) : M Bool := M.fin (b_is_whole_V (a.1, ()))
theorem ok_is_whole_V (F : Fun K "is_whole" "is_whole" (topS 7) f fd) (fr : Free mg) (TN : NTxt K mg CN CF) (iN_bool : PySem.W.kitOne K (.ref CN) (.type "bool") = some false) : FnOk P w K mg base CX0 2 f fd ["value"] (spOf (aCons (rUn (rDt K) (rNum CN)) aNil) rBl m_is_whole_V) := by
  refine F.ok sc_is_whole (fun vs H Q E h => spOf_len h) (fun cdv A outer s H vs Q E hr h => ⟨_, (pss_one (ps_ret (pe_and (pe_callB call_isiU (by rfl) fr.b_isinstance (by decide +kernel) (pa_cons (pv 0) (pa_cons (pe_bltn (v := .ty "int") (by rfl) fr.b_int (by decide +kernel) rfl) pa_nil))) (pe_one (pe_not (pe_callB call_isiU (by rfl) fr.b_isinstance (by decide +kernel) (pa_cons (pv 0) (pa_cons (pe_bltn (v := .ty "bool") (by rfl) fr.b_bool (by decide +kernel) rfl) pa_nil)))))))), ?_⟩)
  refine fn_body (X := E) (S := (aCons (rUn (rDt K) (rNum CN)) aNil)) (E' := eNil) (R := rBl) (st_par st_nil) rfl (s_ret (e_and (e_ca (cas_un (c_isiDt (u := "int")) (c_isi (tr_num TN) (.ty "int") TN.iNI fun h => h)) (a_cons (e_var get0) (a_cons e_tyV a_nil))) (e_not (e_ca (cas_un (c_isiDt (u := "bool")) (c_isi (tr_num TN) (.ty "bool") iN_bool fun h => h)) (a_cons (e_var get0) (a_cons e_tyV a_nil)))))) ?_
  exact h
theorem sc_form_in : FnScope ["top", "part", "root", "bottom"] ["top", "part", "root", "bottom"] (defScope (topS 20)) := ⟨rfl, rfl, rfl, by decide +kernel, rfl, by decide +kernel, by decide +kernel⟩
noncomputable def b_form_in_X (ρ : ((Sum PyData Nm) × ((Sum PyData Nm) × ((Sum PyData Nm) × ((Sum PyData Nm) × Unit))))) : M (Ct Unit Unit Unit) := (M.thn (M.safe (M.bind (M.bind (M.bind (M.ret ρ.1) fun x16 => M.bind (M.bind (M.ret ()) fun x14 => M.bind (M.ret ()) fun x15 => M.ret (x14, x15)) fun x17 => M.ret (x16, x17)) fun r18 => (sumE (fun _ => M.ret false) (fun _ => M.ret false)) r18.1) fun x21 => M.ifb x21 (M.bind (M.bind (M.ret ρ.1) fun x19 => M.ret ()) fun x20 => M.ret (.rt x20)) (M.ret (.nx ρ)))) fun ρ => (M.thn (M.bind (M.safe (M.bind (M.bind (M.bind (M.bind (M.ret ρ.1) fun x22 => M.bind (M.ret ()) fun x23 => M.ret (x22, x23)) fun r24 => M.still (m_is_whole_V r24)) fun x25 => M.ret (!x25)) fun x40 => M.ifb x40 (M.ret true) (M.bind (M.bind (M.bind (M.bind (M.ret ρ.2.1) fun x26 => M.bind (M.ret ()) fun x27 => M.ret (x26, x27)) fun r28 => M.still (m_is_whole_V r28)) fun x29 => M.ret (!x29)) fun x39 => M.ifb x39 (M.ret true) (M.bind (M.bind (M.bind (M.bind (M.ret ρ.2.2.2.1) fun x30 => M.bind (M.ret ()) fun x31 => M.ret (x30, x31)) fun r32 => M.still (m_is_whole_V r32)) fun x33 => M.ret (!x33)) fun x38 => M.ifb x38 (M.ret true) (M.bind (M.bind (M.bind (M.ret ρ.2.2.2.1) fun x34 => M.the (lftS x34)) fun x35 => M.the (dInt x35)) fun x36 => M.bind (M.ret (0 : Int)) fun x37 => M.ret (decide (x36 = x37))))))) fun x41 => M.ifb x41 (M.raise ⟨"InvalidNumber", .none⟩) (M.safe (M.ret (.nx ρ)))) fun ρ => (M.thn (M.bind (M.safe (M.bind (M.bind (M.bind (M.bind (M.ret ρ.2.2.1) fun x42 => M.bind (M.ret ()) fun x43 => M.ret (x42, x43)) fun r44 => M.still (m_is_whole_V r44)) fun x45 => M.ret (!x45)) fun x65 => M.ifb x65 (M.ret true) (M.bind (M.bind (M.bind (M.bind (M.bind (M.ret ρ.2.2.1) fun x46 => M.the (lftS x46)) fun x47 => M.the (dInt x47)) fun x48 => M.bind (M.ret (0 : Int)) fun x49 => M.ret (!decide (x48 = x49))) fun x54 => M.ifb x54 (M.bind (M.bind (M.bind (M.bind (M.ret ρ.2.2.1) fun x50 => M.the (lftS x50)) fun x51 => M.the (dInt x51)) fun x52 => M.ret (isRootB x52)) fun x53 => M.ret (!x53)) (M.ret false)) fun x64 => M.ifb x64 (M.ret true) (M.bind (M.bind (M.bind (M.bind (M.ret ρ.2.2.1) fun x55 => M.the (lftS x55)) fun x56 => M.the (dInt x56)) fun x57 => M.bind (M.ret (0 : Int)) fun x58 => M.ret (decide (x57 = x58))) fun x63 => M.ifb x63 (M.bind (M.bind (M.bind (M.ret ρ.2.1) fun x59 => M.the (lftS x59)) fun x60 => M.the (dInt x60)) fun x61 => M.bind (M.ret (0 : Int)) fun x62 => M.ret (!decide (x61 = x62))) (M.ret false))))) fun x66 => M.ifb x66 (M.raise ⟨"InvalidNumber", .none⟩) (M.safe (M.ret (.nx ρ)))) fun ρ => (M.safe (M.bind (M.none : M Unit) fun x67 => M.ret (.rt x67))))))
noncomputable def m_form_in_X (a : ((Sum PyData Nm) × ((Sum PyData Nm) × ((Sum PyData Nm) × ((Sum PyData Nm) × Unit))))) : M Unit := M.fin (b_form_in_X (a.1, (a.2.1, (a.2.2.1, (a.2.2.2.1, ())))))
theorem ok_form_in_X (F : Fun K "form_in" "form_in" (topS 20) f fd) {A_InvalidNumber : Addr} (TN : NTxt K mg CN CF) (OF : OdT K CF) (iNF : PySem.W.kitOne K (.ref CN) (.ref CF) = some false) (fr : Free mg) (G_is_whole_V : GD P w K mg base "is_whole" 2 (spOf (aCons (rUn (rDt K) (rNum CN)) aNil) rBl m_is_whole_V)) (X_InvalidNumber : GX K mg "InvalidNumber" A_InvalidNumber) (G_is_root : GD P w K mg base "is_root" 3 spIsRoot) : FnOk P w K mg base (L2.CX P w) 4 f fd ["top", "part", "root", "bottom"] (spOfF K mg flE (aCons (rUn (rDt K) (rNum CN)) (aCons (rUn (rDt K) (rNum CN)) (aCons (rUn (rDt K) (rNum CN)) (aCons (rUn (rDt K) (rNum CN)) aNil)))) rAny m_form_in_X) := by
  refine F.okX sc_form_in (fun vs H Q E h => spOfF_len h) (fun cdv A outer s H vs Q E hr h => ⟨_, (pss_cons (ps_if (pt_val (pe_callB call_isiU (by rfl) fr.b_isinstance (by decide +kernel) (pa_cons (pv 0) (pa_cons (pe_glob (v := .ref CF) rfl TN.gF rfl) pa_nil)))) (pss_one (ps_ret (pv 0))) pss_nil)
  (pss_cons (ps_if (PW.pt (pw_or (pt_not (pt_val (pe_c1 G_is_whole_V (hr.mono (by decide)) (pa_cons (pv 0) pa_nil)))) (pw_or (pt_not (pt_val (pe_c1 G_is_whole_V (hr.mono (by decide)) (pa_cons (pv 1) pa_nil)))) (pw_or (pt_not (pt_val (pe_c1 G_is_whole_V (hr.mono (by decide)) (pa_cons (pv 3) pa_nil)))) (pw_or1 (pt_cmpR op_eq (pv 3) pe_int (nomark _))))))) (pss_one (ps_raiseX (takes_of rfl rfl rfl rfl) X_InvalidNumber)) pss_nil)
  (pss_cons (ps_if (PW.pt (pw_or (pt_not (pt_val (pe_c1 G_is_whole_V (hr.mono (by decide)) (pa_cons (pv 2) pa_nil)))) (pw_or (PW.pt (pw_and (pt_cmpR op_ne (pv 2) pe_int (nomark _)) (pw_and1 (pt_not (pt_val (pe_c1 G_is_root (hr.mono (by decide)) (pa_cons (pv 2) pa_nil))))))) (pw_or1 (PW.pt (pw_and (pt_cmpR op_eq (pv 2) pe_int (nomark _)) (pw_and1 (pt_cmpR op_ne (pv 1) pe_int (nomark _))))))))) (pss_one (ps_raiseX (takes_of rfl rfl rfl rfl) X_InvalidNumber)) pss_nil)
  (pss_one (ps_ret pe_never))))), ?_⟩)
  refine fn_bodyF (K := K) (X := E) (S := (aCons (rUn (rDt K) (rNum CN)) (aCons (rUn (rDt K) (rNum CN)) (aCons (rUn (rDt K) (rNum CN)) (aCons (rUn (rDt K) (rNum CN)) aNil))))) (E' := eNil) (R := rAny) (st_par (st_par (st_par (st_par st_nil)))) rfl (s_seq (ss_safe (s_if (t_b (e_ca (cas_un (c_isiDtC OF) (c_isi (tr_num TN) (.own CF) iNF fun h => h)) (a_cons (e_var get0) (a_cons e_clsV a_nil)))) (s_ret (se_any (e_var get0))) s_nil))
  (s_seq (s_if (st_safe (t_or (t_not (t_b (e_call (a_cons (e_var get0) a_nil)))) (t_or (t_not (t_b (e_call (a_cons (e_var gt1) a_nil)))) (t_or (t_not (t_b (e_call (a_cons (e_var gt3) a_nil)))) (t_of (e_op (o_eq sc_int) (e_dInt (e_the (f := lftS) un_get (e_var gt3))) e_int)))))) (s_raiseN (fl := flE) X_InvalidNumber.gl (by decide +kernel) (fun _ => rfl)) (ss_safe s_nil))
  (s_seq (s_if (st_safe (t_or (t_not (t_b (e_call (a_cons (e_var gt2) a_nil)))) (t_or (t_and (t_of (e_op (o_ne sc_int) (e_dInt (e_the (f := lftS) un_get (e_var gt2))) e_int)) (t_not (t_b (e_isRoot (e_dInt (e_the (f := lftS) un_get (e_var gt2))))))) (t_and (t_of (e_op (o_eq sc_int) (e_dInt (e_the (f := lftS) un_get (e_var gt2))) e_int)) (t_of (e_op (o_ne sc_int) (e_dInt (e_the (f := lftS) un_get (e_var gt1))) e_int)))))) (s_raiseN (fl := flE) X_InvalidNumber.gl (by decide +kernel) (fun _ => rfl)) (ss_safe s_nil))
  (ss_safe (s_ret (e_never (Ra := rAny))))))) ?_
  exact h
theorem sc_Number___init__ : FnScope ["self", "top", "part", "root", "bottom", "form"] ["self", "top", "part", "root", "bottom"] (defScope (inClass (topS 21) 1)) := ⟨rfl, rfl, rfl, by decide +kernel, rfl, by decide +kernel, by decide +kernel⟩
noncomputable def b_Number___init___X (ρ : (Unit × ((Sum PyData Nm) × ((Sum PyData Nm) × ((Sum PyData Nm) × ((Sum PyData Nm) × (Unit × Unit))))))) : M (Ct (Unit × ((Sum PyData Nm) × ((Sum PyData Nm) × ((Sum PyData Nm) × ((Sum PyData Nm) × (Unit × Unit)))))) Unit Unit) := (M.thn (M.bind (M.bind (M.safe (M.bind (M.ret ρ.2.1) fun x74 => M.bind (M.bind (M.ret ρ.2.2.1) fun x72 => M.bind (M.bind (M.ret ρ.2.2.2.1) fun x70 => M.bind (M.bind (M.ret ρ.2.2.2.2.1) fun x68 => M.bind (M.ret ()) fun x69 => M.ret (x68, x69)) fun x71 => M.ret (x70, x71)) fun x73 => M.ret (x72, x73)) fun x75 => M.ret (x74, x75))) fun r76 => M.still (m_form_in_X r76)) fun x77 => M.ret (.nx (ρ.1, ρ.2.1, ρ.2.2.1, ρ.2.2.2.1, ρ.2.2.2.2.1, x77, ρ.2.2.2.2.2.2))) fun ρ => (M.thn M.none fun (ρ : (Unit × ((Sum PyData Nm) × ((Sum PyData Nm) × ((Sum PyData Nm) × ((Sum PyData Nm) × (Unit × Unit))))))) => (M.thn M.none fun (ρ : (Unit × ((Sum PyData Nm) × ((Sum PyData Nm) × ((Sum PyData Nm) × ((Sum PyData Nm) × (Unit × Unit))))))) => (M.thn M.none fun (ρ : (Unit × ((Sum PyData Nm) × ((Sum PyData Nm) × ((Sum PyData Nm) × ((Sum PyData Nm) × (Unit × Unit))))))) => M.none))))
noncomputable def m_Number___init___X (a : (Unit × ((Sum PyData Nm) × ((Sum PyData Nm) × ((Sum PyData Nm) × ((Sum PyData Nm) × Unit)))))) : M Unit := M.finN (b_Number___init___X (a.1, (a.2.1, (a.2.2.1, (a.2.2.2.1, (a.2.2.2.2.1, ((), ())))))))
theorem ok_Number___init___X {dvs : List V} {kws : List (Str × V)} (F : FunD K "__init__" "Number.__init__" (defArgs (inClass (topS 21) 1)) (defBody (inClass (topS 21) 1)) (defScope (inClass (topS 21) 1)) dvs kws f fd) (R_form_in : GR P w K mg base "form_in" 4 (spOfF K mg flE (aCons (rUn (rDt K) (rNum CN)) (aCons (rUn (rDt K) (rNum CN)) (aCons (rUn (rDt K) (rNum CN)) (aCons (rUn (rDt K) (rNum CN)) aNil)))) rAny m_form_in_X)) : FnOk P w K mg base (L2.CX P w) 5 f fd ["self", "top", "part", "root", "bottom"] (spOfF K mg flE (aCons rAny (aCons (rUn (rDt K) (rNum CN)) (aCons (rUn (rDt K) (rNum CN)) (aCons (rUn (rDt K) (rNum CN)) (aCons (rUn (rDt K) (rNum CN)) aNil))))) rNon m_Number___init___X) := by
  refine F.okX sc_Number___init__ (fun vs H Q E h => spOfF_len h) (fun cdv A outer s H vs Q E hr h => ⟨_, (pss_cons (ps_set (i := 5) sc_Number___init__.nd rfl (by first | exact Or.inl rfl | exact Or.inr rfl) (pe_cX (takes_of rfl rfl rfl rfl) R_form_in (hr.mono (by decide)) (pa_cons (pv 1) (pa_cons (pv 2) (pa_cons (pv 3) (pa_cons (pv 4) pa_nil))))))
  (pss_cons ps_never
  (pss_cons ps_never
  (pss_cons ps_never
  (pss_one ps_never))))), ?_⟩)
  refine fn_bodyNF (K := K) (X := E) (S := (aCons rAny (aCons (rUn (rDt K) (rNum CN)) (aCons (rUn (rDt K) (rNum CN)) (aCons (rUn (rDt K) (rNum CN)) (aCons (rUn (rDt K) (rNum CN)) aNil)))))) (E' := (eCons (sVal rAny) (eCons (sVal (rUn (rDt K) (rNum CN))) (eCons (sVal (rUn (rDt K) (rNum CN))) (eCons (sVal (rUn (rDt K) (rNum CN))) (eCons (sVal (rUn (rDt K) (rNum CN))) (eCons (sVal rAny) eNil))))))) (st_par (st_par (st_par (st_par (st_par (st_un st_nil)))))) rfl (s_seq (s_asg (e_callF (fun _ => rfl) (sa_safe (a_cons (e_var gt1) (a_cons (e_var gt2) (a_cons (e_var gt3) (a_cons (e_var gt4) a_nil)))))) (g_name pu5))
  (s_seq s_never0
  (s_seq s_never0
  (s_seq s_never0
  s_never0)))) ?_
  exact h
theorem sc_is_like_number : FnScope ["value"] ["value"] (defScope (topS 22)) := ⟨rfl, rfl, rfl, by decide +kernel, rfl, by decide +kernel, by decide +kernel⟩
noncomputable def b_is_like_number_V (ρ : ((Sum PyData Nm) × Unit)) : M (Ct Unit Unit Bool) := (M.bind (M.bind (M.bind (M.bind (M.ret ρ.1) fun x80 => M.bind (M.bind (M.ret ()) fun x78 => M.bind (M.ret ()) fun x79 => M.ret (x78, x79)) fun x81 => M.ret (x80, x81)) fun r82 => (sumE (fun _ => M.ret false) (fun _ => M.ret true)) r82.1) fun x86 => M.ifb x86 (M.ret true) (M.bind (M.bind (M.ret ρ.1) fun x83 => M.bind (M.ret ()) fun x84 => M.ret (x83, x84)) fun r85 => M.still (m_is_whole_V r85))) fun x87 => M.ret (.rt x87))
noncomputable def m_is_like_number_V (a : ((Sum PyData Nm) × Unit)) : M Bool := M.fin (b_is_like_number_V (a.1, ()))
theorem ok_is_like_number_V (F : Fun K "is_like_number" "is_like_number" (topS 22) f fd) (TN : NTxt K mg CN CF) (ON : OdT K CN) (fr : Free mg) (G_is_whole_V : GD P w K mg base "is_whole" 2 (spOf (aCons (rUn (rDt K) (rNum CN)) aNil) rBl m_is_whole_V)) : FnOk P w K mg base CX0 3 f fd ["value"] (spOf (aCons (rUn (rDt K) (rNum CN)) aNil) rBl m_is_like_number_V) := by
  refine F.ok sc_is_like_number (fun vs H Q E h => spOf_len h) (fun cdv A outer s H vs Q E hr h => ⟨_, (pss_one (ps_ret (pe_or (pe_callB call_isiU (by rfl) fr.b_isinstance (by decide +kernel) (pa_cons (pv 0) (pa_cons (pe_glob (v := .ref CN) rfl TN.gN rfl) pa_nil))) (pe_one (pe_c1 G_is_whole_V (hr.mono (by decide)) (pa_cons (pv 0) pa_nil)))))), ?_⟩)
  refine fn_body (X := E) (S := (aCons (rUn (rDt K) (rNum CN)) aNil)) (E' := eNil) (R := rBl) (st_par st_nil) rfl (s_ret (e_or (e_ca (cas_un (c_isiDtC ON) (c_isi (tr_num TN) (.own CN) TN.iNN fun h => h)) (a_cons (e_var get0) (a_cons e_clsV a_nil))) (e_call (a_cons (e_var get0) a_nil)))) ?_
  exact h
theorem sc_number_of : FnScope ["value"] ["value"] (defScope (topS 23)) := ⟨rfl, rfl, rfl, by decide +kernel, rfl, by decide +kernel, by decide +kernel⟩
noncomputable def b_number_of_V (ρ : ((Sum PyData Nm) × Unit)) : M (Ct Unit Unit Nm) := (M.bind (M.bind (M.bind (M.bind (M.ret ρ.1) fun x90 => M.bind (M.bind (M.ret ()) fun x88 => M.bind (M.ret ()) fun x89 => M.ret (x88, x89)) fun x91 => M.ret (x90, x91)) fun r92 => (sumE (fun _ => M.ret false) (fun _ => M.ret true)) r92.1) fun x100 => M.ifb x100 (M.bind (M.ret ρ.1) fun x93 => M.the (rgtS x93)) (M.bind (M.bind (M.bind (M.ret ρ.1) fun x94 => M.the (lftS x94)) fun x95 => M.the (dInt x95)) fun x96 => M.bind (M.ret (0 : Int)) fun x97 => M.bind (M.ret (0 : Int)) fun x98 => M.bind (M.ret (1 : Int)) fun x99 => M.need (x99 ≠ 0 ∧ Bd 9000 x99) (M.ret (mkNm x96 x97 x98 x99)))) fun x101 => M.ret (.rt x101))
noncomputable def m_number_of_V (a : ((Sum PyData Nm) × Unit)) : M Nm := M.fin (b_number_of_V (a.1, ()))
theorem ok_number_of_V (F : Fun K "number_of" "number_of" (topS 23) f fd) (TN : NTxt K mg CN CF) (ON : OdT K CN) (fr : Free mg) (G_Number : GM P w K mg base "Number" CN 6 [.int 0, .int 0, .int 1] (spNumI CN CF)) (G_Form : GM P w K mg base "Form" CF 3 [] (spFormI CF)) : FnOk P w K mg base CX0 8 f fd ["value"] (spOf (aCons (rUn (rDt K) (rNum CN)) aNil) (rNum CN) m_number_of_V) := by
  refine F.ok sc_number_of (fun vs H Q E h => spOf_len h) (fun cdv A outer s H vs Q E hr h => ⟨_, (pss_one (ps_ret (pe_ifExp (pt_val (pe_callB call_isiU (by rfl) fr.b_isinstance (by decide +kernel) (pa_cons (pv 0) (pa_cons (pe_glob (v := .ref CN) rfl TN.gN rfl) pa_nil)))) (pv 0) (pe_m1 G_Number (hr.mono (by decide)) (pa_cons (pe_m1 G_Form (hr.mono (by decide)) (pa_cons (pv 0) (pa_cons pe_int (pa_cons pe_int (pa_cons pe_int pa_nil))))) pa_nil))))), ?_⟩)
  refine fn_body (X := E) (S := (aCons (rUn (rDt K) (rNum CN)) aNil)) (E' := eNil) (R := (rNum CN)) (st_par st_nil) rfl (s_ret (e_if (t_b (e_ca (cas_un (c_isiDtC ON) (c_isi (tr_num TN) (.own CN) TN.iNN fun h => h)) (a_cons (e_var get0) (a_cons e_clsV a_nil)))) (e_the (f := rgtS) un_getR (e_var get0)) (e_mkNumF (e_mkForm (e_dInt (e_the (f := lftS) un_get (e_var get0))) e_int e_int e_int)))) ?_
  exact h
theorem sc_required : FnScope ["value"] ["value"] (defScope (topS 24)) := ⟨rfl, rfl, rfl, by decide +kernel, rfl, by decide +kernel, by decide +kernel⟩
noncomputable def b_required_X (ρ : ((Sum PyData Nm) × Unit)) : M (Ct Unit Unit Nm) := (M.thn (M.bind (M.safe (M.bind (M.bind (M.bind (M.ret ρ.1) fun x102 => M.bind (M.ret ()) fun x103 => M.ret (x102, x103)) fun r104 => M.still (m_is_like_number_V r104)) fun x105 => M.ret (!x105))) fun x106 => M.ifb x106 (M.raise ⟨"InvalidNumber", .none⟩) (M.safe (M.ret (.nx ρ)))) fun ρ => (M.safe (M.bind (M.bind (M.bind (M.ret ρ.1) fun x107 => M.bind (M.ret ()) fun x108 => M.ret (x107, x108)) fun r109 => M.still (m_number_of_V r109)) fun x110 => M.ret (.rt x110))))
noncomputable def m_required_X (a : ((Sum PyData Nm) × Unit)) : M Nm := M.fin (b_required_X (a.1, ()))
theorem ok_required_X (F : Fun K "required" "required" (topS 24) f fd) {A_InvalidNumber : Addr} (G_is_like_number_V : GD P w K mg base "is_like_number" 3 (spOf (aCons (rUn (rDt K) (rNum CN)) aNil) rBl m_is_like_number_V)) (X_InvalidNumber : GX K mg "InvalidNumber" A_InvalidNumber) (G_number_of_V : GD P w K mg base "number_of" 8 (spOf (aCons (rUn (rDt K) (rNum CN)) aNil) (rNum CN) m_number_of_V)) : FnOk P w K mg base (L2.CX P w) 9 f fd ["value"] (spOfF K mg flE (aCons (rUn (rDt K) (rNum CN)) aNil) (rNum CN) m_required_X) := by
  refine F.okX sc_required (fun vs H Q E h => spOfF_len h) (fun cdv A outer s H vs Q E hr h => ⟨_, (pss_cons (ps_if (pt_not (pt_val (pe_c1 G_is_like_number_V (hr.mono (by decide)) (pa_cons (pv 0) pa_nil)))) (pss_one (ps_raiseX (takes_of rfl rfl rfl rfl) X_InvalidNumber)) pss_nil)
  (pss_one (ps_ret (pe_c1 G_number_of_V (hr.mono (by decide)) (pa_cons (pv 0) pa_nil))))), ?_⟩)
  refine fn_bodyF (K := K) (X := E) (S := (aCons (rUn (rDt K) (rNum CN)) aNil)) (E' := eNil) (R := (rNum CN)) (st_par st_nil) rfl (s_seq (s_if (st_safe (t_not (t_b (e_call (a_cons (e_var get0) a_nil))))) (s_raiseN (fl := flE) X_InvalidNumber.gl (by decide +kernel) (fun _ => rfl)) (ss_safe s_nil))
  (ss_safe (s_ret (e_call (a_cons (e_var get0) a_nil))))) ?_
  exact h
theorem sc_common_root : FnScope ["one", "other"] ["one", "other"] (defScope (topS 25)) := ⟨rfl, rfl, rfl, by decide +kernel, rfl, by decide +kernel, by decide +kernel⟩
noncomputable def b_common_root_X (ρ : (Nm × (Nm × Unit))) : M (Ct Unit Unit Int) := (M.thn (M.bind (M.safe (M.bind (M.bind (M.bind (M.ret ρ.1) fun x111 => M.ret (Nm.r x111)) fun x112 => M.bind (M.ret (0 : Int)) fun x113 => M.ret (!decide (x112 = x113))) fun x122 => M.ifb x122 (M.bind (M.bind (M.bind (M.ret ρ.2.1) fun x114 => M.ret (Nm.r x114)) fun x115 => M.bind (M.ret (0 : Int)) fun x116 => M.ret (!decide (x115 = x116))) fun x121 => M.ifb x121 (M.bind (M.bind (M.ret ρ.1) fun x117 => M.ret (Nm.r x117)) fun x119 => M.bind (M.bind (M.ret ρ.2.1) fun x118 => M.ret (Nm.r x118)) fun x120 => M.ret (!decide (x119 = x120))) (M.ret false)) (M.ret false))) fun x123 => M.ifb x123 (M.raise ⟨"InvalidNumber", .none⟩) (M.safe (M.ret (.nx ρ)))) fun ρ => (M.safe (M.bind (M.bind (M.bind (M.bind (M.ret ρ.1) fun x124 => M.ret (Nm.r x124)) fun x125 => M.bind (M.ret (0 : Int)) fun x126 => M.ret (!decide (x125 = x126))) fun x129 => M.ifb x129 (M.bind (M.ret ρ.1) fun x127 => M.ret (Nm.r x127)) (M.bind (M.ret ρ.2.1) fun x128 => M.ret (Nm.r x128))) fun x130 => M.ret (.rt x130))))
noncomputable def m_common_root_X (a : (Nm × (Nm × Unit))) : M Int := M.fin (b_common_root_X (a.1, (a.2.1, ())))
theorem ok_common_root_X (F : Fun K "common_root" "common_root" (topS 25) f fd) {A_InvalidNumber : Addr} (TN : NTxt K mg CN CF) (X_InvalidNumber : GX K mg "InvalidNumber" A_InvalidNumber) : FnOk P w K mg base (L2.CX P w) 2 f fd ["one", "other"] (spOfF K mg flE (aCons (rNum CN) (aCons (rNum CN) aNil)) rInt m_common_root_X) := by
  refine F.okX sc_common_root (fun vs H Q E h => spOfF_len h) (fun cdv A outer s H vs Q E hr h => ⟨_, (pss_cons (ps_if (PW.pt (pw_and (pt_cmpR op_ne (pe_slC TN.cN TN.sN_root (pv 0)) pe_int (nomark _)) (pw_and (pt_cmpR op_ne (pe_slC TN.cN TN.sN_root (pv 1)) pe_int (nomark _)) (pw_and1 (pt_cmpR op_ne (pe_slC TN.cN TN.sN_root (pv 0)) (pe_slC TN.cN TN.sN_root (pv 1)) (nomark _)))))) (pss_one (ps_raiseX (takes_of rfl rfl rfl rfl) X_InvalidNumber)) pss_nil)
  (pss_one (ps_ret (pe_ifExp (pt_cmpR op_ne (pe_slC TN.cN TN.sN_root (pv 0)) pe_int (nomark _)) (pe_slC TN.cN TN.sN_root (pv 0)) (pe_slC TN.cN TN.sN_root (pv 1)))))), ?_⟩)
  refine fn_bodyF (K := K) (X := E) (S := (aCons (rNum CN) (aCons (rNum CN) aNil))) (E' := eNil) (R := rInt) (st_par (st_par st_nil)) rfl (s_seq (s_if (st_safe (t_and (t_of (e_op (o_ne sc_int) (e_slot slg_own_root_num (e_var get0)) e_int)) (t_and (t_of (e_op (o_ne sc_int) (e_slot slg_own_root_num (e_var gt1)) e_int)) (t_of (e_op (o_ne sc_int) (e_slot slg_own_root_num (e_var get0)) (e_slot slg_own_root_num (e_var gt1))))))) (s_raiseN (fl := flE) X_InvalidNumber.gl (by decide +kernel) (fun _ => rfl)) (ss_safe s_nil))
  (ss_safe (s_ret (e_if (t_of (e_op (o_ne sc_int) (e_slot slg_own_root_num (e_var get0)) e_int)) (e_slot slg_own_root_num (e_var get0)) (e_slot slg_own_root_num (e_var gt1)))))) ?_
  exact h
theorem sc_Number_compared : FnScope ["self", "other", "more", "root", "top"] ["self", "other"] (defScope (inClass (topS 21) 11)) := ⟨rfl, rfl, rfl, by decide +kernel, rfl, by decide +kernel, by decide +kernel⟩
noncomputable def b_Number_compared_X (ρ : (Nm × ((Sum PyData Nm) × (Unit × (Unit × (Unit × Unit)))))) : M (Ct Unit Unit Int) := (M.thn (M.bind (M.bind (M.safe (M.bind (M.ret ρ.2.1) fun x131 => M.bind (M.ret ()) fun x132 => M.ret (x131, x132))) fun r133 => M.still (m_required_X r133)) fun x134 => M.ret (.nx (ρ.1, ρ.2.1, x134, ρ.2.2.2))) fun ρ => (M.thn (M.bind (M.bind (M.safe (M.bind (M.ret ρ.1) fun x137 => M.bind (M.bind (M.ret ρ.2.2.1) fun x135 => M.bind (M.ret ()) fun x136 => M.ret (x135, x136)) fun x138 => M.ret (x137, x138))) fun r139 => M.still (m_common_root_X r139)) fun x140 => M.ret (.nx (ρ.1, ρ.2.1, ρ.2.2.1, x140, ρ.2.2.2.2))) fun ρ => (M.thn (M.safe (M.bind (M.bind (M.bind (M.bind (M.ret ρ.1) fun x141 => M.ret (Nm.t x141)) fun x143 => M.bind (M.bind (M.ret ρ.2.2.1) fun x142 => M.ret (Nm.b x142)) fun x144 => M.need (CMulX x143 x144) (M.ret (x143 * x144))) fun x149 => M.bind (M.bind (M.bind (M.ret ρ.2.2.1) fun x145 => M.ret (Nm.t x145)) fun x147 => M.bind (M.bind (M.ret ρ.1) fun x146 => M.ret (Nm.b x146)) fun x148 => M.need (CMulX x147 x148) (M.ret (x147 * x148))) fun x150 => M.ret (x149 - x150)) fun x151 => M.ret (.nx (ρ.1, ρ.2.1, ρ.2.2.1, ρ.2.2.2.1, x151, ρ.2.2.2.2.2)))) fun ρ => (M.safe (M.bind (M.bind (M.bind (M.ret ρ.2.2.2.2.1) fun x166 => M.bind (M.bind (M.bind (M.bind (M.bind (M.ret ρ.1) fun x152 => M.ret (Nm.p x152)) fun x154 => M.bind (M.bind (M.ret ρ.2.2.1) fun x153 => M.ret (Nm.b x153)) fun x155 => M.need (CMulX x154 x155) (M.ret (x154 * x155))) fun x160 => M.bind (M.bind (M.bind (M.ret ρ.2.2.1) fun x156 => M.ret (Nm.p x156)) fun x158 => M.bind (M.bind (M.ret ρ.1) fun x157 => M.ret (Nm.b x157)) fun x159 => M.need (CMulX x158 x159) (M.ret (x158 * x159))) fun x161 => M.ret (x160 - x161)) fun x164 => M.bind (M.bind (M.ret ρ.2.2.2.1) fun x162 => M.bind (M.ret ()) fun x163 => M.ret (x162, x163)) fun x165 => M.ret (x164, x165)) fun x167 => M.ret (x166, x167)) fun r168 => M.need (Bd 1000000 r168.1 ∧ Bd 1000000 r168.2.1 ∧ Bd 10 r168.2.2.1) (M.ret (sgnSum r168.1 r168.2.1 r168.2.2.1))) fun x169 => M.ret (.rt x169))))))
noncomputable def m_Number_compared_X (a : (Nm × ((Sum PyData Nm) × Unit))) : M Int := M.fin (b_Number_compared_X (a.1, (a.2.1, ((), ((), ((), ()))))))
theorem ok_Number_compared_X (F : Fun K "compared" "Number.compared" (inClass (topS 21) 11) f fd) (R_required : GR P w K mg base "required" 9 (spOfF K mg flE (aCons (rUn (rDt K) (rNum CN)) aNil) (rNum CN) m_required_X)) (R_common_root : GR P w K mg base "common_root" 2 (spOfF K mg flE (aCons (rNum CN) (aCons (rNum CN) aNil)) rInt m_common_root_X)) (TN : NTxt K mg CN CF) (G_sign_of_sum : GD P w K mg base "sign_of_sum" 3 spSignSum) : FnOk P w K mg base (L2.CX P w) 10 f fd ["self", "other"] (spOfF K mg flE (aCons (rNum CN) (aCons (rUn (rDt K) (rNum CN)) aNil)) rInt m_Number_compared_X) := by
  refine F.okX sc_Number_compared (fun vs H Q E h => spOfF_len h) (fun cdv A outer s H vs Q E hr h => ⟨_, (pss_cons (ps_set (i := 2) sc_Number_compared.nd rfl (by first | exact Or.inl rfl | exact Or.inr rfl) (pe_cX (takes_of rfl rfl rfl rfl) R_required (hr.mono (by decide)) (pa_cons (pv 1) pa_nil)))
  (pss_cons (ps_set (i := 3) sc_Number_compared.nd rfl (by first | exact Or.inl rfl | exact Or.inr rfl) (pe_cX (takes_of rfl rfl rfl rfl) R_common_root (hr.mono (by decide)) (pa_cons (pv 0) (pa_cons (pv 2) pa_nil))))
  (pss_cons (ps_set (i := 4) sc_Number_compared.nd rfl (by first | exact Or.inl rfl | exact Or.inr rfl) (pe_op op_sub (pe_op op_mulX (pe_slC TN.cN TN.sN_top (pv 0)) (pe_slC TN.cN TN.sN_bottom (pv 2))) (pe_op op_mulX (pe_slC TN.cN TN.sN_top (pv 2)) (pe_slC TN.cN TN.sN_bottom (pv 0)))))
  (pss_one (ps_ret (pe_c1 G_sign_of_sum (hr.mono (by decide)) (pa_cons (pv 4) (pa_cons (pe_op op_sub (pe_op op_mulX (pe_slC TN.cN TN.sN_part (pv 0)) (pe_slC TN.cN TN.sN_bottom (pv 2))) (pe_op op_mulX (pe_slC TN.cN TN.sN_part (pv 2)) (pe_slC TN.cN TN.sN_bottom (pv 0)))) (pa_cons (pv 3) pa_nil))))))))), ?_⟩)
  refine fn_bodyF (K := K) (X := E) (S := (aCons (rNum CN) (aCons (rUn (rDt K) (rNum CN)) aNil))) (E' := eNil) (R := rInt) (st_par (st_par (st_un (st_un (st_un st_nil))))) rfl (s_seq (s_asg (e_callF (fun _ => rfl) (sa_safe (a_cons (e_var gt1) a_nil))) (g_name pu2))
  (s_seq (s_asg (e_callF (fun _ => rfl) (sa_safe (a_cons (e_var get0) (a_cons (e_var gt2) a_nil)))) (g_name pu3))
  (s_seq (ss_safe (s_asg (e_op (o_ii fun _ _ => rfl) (e_op (o_iiC fun _ _ => rfl) (e_slot slg_own_top_num (e_var get0)) (e_slot slg_own_bottom_num (e_var gt2))) (e_op (o_iiC fun _ _ => rfl) (e_slot slg_own_top_num (e_var gt2)) (e_slot slg_own_bottom_num (e_var get0)))) (g_name pu4)))
  (ss_safe (s_ret (e_signSum (a_cons (e_var gt4) (a_cons (e_op (o_ii fun _ _ => rfl) (e_op (o_iiC fun _ _ => rfl) (e_slot slg_own_part_num (e_var get0)) (e_slot slg_own_bottom_num (e_var gt2))) (e_op (o_iiC fun _ _ => rfl) (e_slot slg_own_part_num (e_var gt2)) (e_slot slg_own_bottom_num (e_var get0)))) (a_cons (e_var gt3) a_nil))))))))) ?_
  exact h
theorem sc_Number_over : FnScope ["self", "other", "less", "root", "size", "top", "part"] ["self", "other"] (defScope (inClass (topS 21) 12)) := ⟨rfl, rfl, rfl, by decide +kernel, rfl, by decide +kernel, by decide +kernel⟩
noncomputable def b_Number_over_X (ρ : (Nm × ((Sum PyData Nm) × (Unit × (Unit × (Unit × (Unit × (Unit × Unit)))))))) : M (Ct Unit Unit Nm) := (M.thn (M.bind (M.bind (M.safe (M.bind (M.ret ρ.2.1) fun x170 => M.bind (M.ret ()) fun x171 => M.ret (x170, x171))) fun r172 => M.still (m_required_X r172)) fun x173 => M.ret (.nx (ρ.1, ρ.2.1, x173, ρ.2.2.2))) fun ρ => (M.thn (M.bind (M.bind (M.safe (M.bind (M.ret ρ.1) fun x176 => M.bind (M.bind (M.ret ρ.2.2.1) fun x174 => M.bind (M.ret ()) fun x175 => M.ret (x174, x175)) fun x177 => M.ret (x176, x177))) fun r178 => M.still (m_common_root_X r178)) fun x179 => M.ret (.nx (ρ.1, ρ.2.1, ρ.2.2.1, x179, ρ.2.2.2.2))) fun ρ => (M.thn (M.safe (M.bind (M.bind (M.bind (M.bind (M.ret ρ.2.2.1) fun x180 => M.ret (Nm.t x180)) fun x182 => M.bind (M.bind (M.ret ρ.2.2.1) fun x181 => M.ret (Nm.t x181)) fun x183 => M.need (CMulX x182 x183) (M.ret (x182 * x183))) fun x190 => M.bind (M.bind (M.bind (M.bind (M.ret ρ.2.2.1) fun x184 => M.ret (Nm.p x184)) fun x186 => M.bind (M.bind (M.ret ρ.2.2.1) fun x185 => M.ret (Nm.p x185)) fun x187 => M.need (CMulX x186 x187) (M.ret (x186 * x187))) fun x188 => M.bind (M.ret ρ.2.2.2.1) fun x189 => M.need (CMulX x188 x189) (M.ret (x188 * x189))) fun x191 => M.ret (x190 - x191)) fun x192 => M.ret (.nx (ρ.1, ρ.2.1, ρ.2.2.1, ρ.2.2.2.1, x192, ρ.2.2.2.2.2)))) fun ρ => (M.thn (M.bind (M.safe (M.bind (M.ret ρ.2.2.2.2.1) fun x193 => M.bind (M.ret (0 : Int)) fun x194 => M.ret (decide (x193 = x194)))) fun x195 => M.ifb x195 (M.raise ⟨"InvalidOperation", .none⟩) (M.safe (M.ret (.nx ρ)))) fun ρ => (M.thn (M.safe (M.bind (M.bind (M.bind (M.bind (M.ret ρ.1) fun x196 => M.ret (Nm.t x196)) fun x198 => M.bind (M.bind (M.ret ρ.2.2.1) fun x197 => M.ret (Nm.t x197)) fun x199 => M.need (CMulX x198 x199) (M.ret (x198 * x199))) fun x206 => M.bind (M.bind (M.bind (M.bind (M.ret ρ.1) fun x200 => M.ret (Nm.p x200)) fun x202 => M.bind (M.bind (M.ret ρ.2.2.1) fun x201 => M.ret (Nm.p x201)) fun x203 => M.need (CMulX x202 x203) (M.ret (x202 * x203))) fun x204 => M.bind (M.ret ρ.2.2.2.1) fun x205 => M.need (CMulX x204 x205) (M.ret (x204 * x205))) fun x207 => M.ret (x206 - x207)) fun x208 => M.ret (.nx (ρ.1, ρ.2.1, ρ.2.2.1, ρ.2.2.2.1, ρ.2.2.2.2.1, x208, ρ.2.2.2.2.2.2)))) fun ρ => (M.thn (M.safe (M.bind (M.bind (M.bind (M.bind (M.ret ρ.1) fun x209 => M.ret (Nm.p x209)) fun x211 => M.bind (M.bind (M.ret ρ.2.2.1) fun x210 => M.ret (Nm.t x210)) fun x212 => M.need (CMulX x211 x212) (M.ret (x211 * x212))) fun x217 => M.bind (M.bind (M.bind (M.ret ρ.1) fun x213 => M.ret (Nm.t x213)) fun x215 => M.bind (M.bind (M.ret ρ.2.2.1) fun x214 => M.ret (Nm.p x214)) fun x216 => M.need (CMulX x215 x216) (M.ret (x215 * x216))) fun x218 => M.ret (x217 - x218)) fun x219 => M.ret (.nx (ρ.1, ρ.2.1, ρ.2.2.1, ρ.2.2.2.1, ρ.2.2.2.2.1, ρ.2.2.2.2.2.1, x219, ρ.2.2.2.2.2.2.2)))) fun ρ => (M.safe (M.bind (M.bind (M.bind (M.ret ρ.2.2.2.2.2.1) fun x221 => M.bind (M.bind (M.ret ρ.2.2.1) fun x220 => M.ret (Nm.b x220)) fun x222 => M.need (CMulX x221 x222) (M.ret (x221 * x222))) fun x229 => M.bind (M.bind (M.ret ρ.2.2.2.2.2.2.1) fun x224 => M.bind (M.bind (M.ret ρ.2.2.1) fun x223 => M.ret (Nm.b x223)) fun x225 => M.need (CMulX x224 x225) (M.ret (x224 * x225))) fun x230 => M.bind (M.ret ρ.2.2.2.1) fun x231 => M.bind (M.bind (M.ret ρ.2.2.2.2.1) fun x227 => M.bind (M.bind (M.ret ρ.1) fun x226 => M.ret (Nm.b x226)) fun x228 => M.need (CMulX x227 x228) (M.ret (x227 * x228))) fun x232 => M.need (x232 ≠ 0 ∧ Bd 9000 x232) (M.ret (mkNm x229 x230 x231 x232))) fun x233 => M.ret (.rt x233)))))))))
noncomputable def m_Number_over_X (a : (Nm × ((Sum PyData Nm) × Unit))) : M Nm := M.fin (b_Number_over_X (a.1, (a.2.1, ((), ((), ((), ((), ((), ()))))))))
theorem ok_Number_over_X (F : Fun K "over" "Number.over" (inClass (topS 21) 12) f fd) {A_InvalidOperation : Addr} (R_required : GR P w K mg base "required" 9 (spOfF K mg flE (aCons (rUn (rDt K) (rNum CN)) aNil) (rNum CN) m_required_X)) (R_common_root : GR P w K mg base "common_root" 2 (spOfF K mg flE (aCons (rNum CN) (aCons (rNum CN) aNil)) rInt m_common_root_X)) (TN : NTxt K mg CN CF) (X_InvalidOperation : GX K mg "InvalidOperation" A_InvalidOperation) (G_Number : GM P w K mg base "Number" CN 6 [.int 0, .int 0, .int 1] (spNumI CN CF)) (G_Form : GM P w K mg base "Form" CF 3 [] (spFormI CF)) : FnOk P w K mg base (L2.CX P w) 10 f fd ["self", "other"] (spOfF K mg flE (aCons (rNum CN) (aCons (rUn (rDt K) (rNum CN)) aNil)) (rNum CN) m_Number_over_X) := by
  refine F.okX sc_Number_over (fun vs H Q E h => spOfF_len h) (fun cdv A outer s H vs Q E hr h => ⟨_, (pss_cons (ps_set (i := 2) sc_Number_over.nd rfl (by first | exact Or.inl rfl | exact Or.inr rfl) (pe_cX (takes_of rfl rfl rfl rfl) R_required (hr.mono (by decide)) (pa_cons (pv 1) pa_nil)))
  (pss_cons (ps_set (i := 3) sc_Number_over.nd rfl (by first | exact Or.inl rfl | exact Or.inr rfl) (pe_cX (takes_of rfl rfl rfl rfl) R_common_root (hr.mono (by decide)) (pa_cons (pv 0) (pa_cons (pv 2) pa_nil))))
  (pss_cons (ps_set (i := 4) sc_Number_over.nd rfl (by first | exact Or.inl rfl | exact Or.inr rfl) (pe_op op_sub (pe_op op_mulX (pe_slC TN.cN TN.sN_top (pv 2)) (pe_slC TN.cN TN.sN_top (pv 2))) (pe_op op_mulX (pe_op op_mulX (pe_slC TN.cN TN.sN_part (pv 2)) (pe_slC TN.cN TN.sN_part (pv 2))) (pv 3))))
  (pss_cons (ps_if (pt_cmpR op_eq (pv 4) pe_int (nomark _)) (pss_one (ps_raiseX (takes_of rfl rfl rfl rfl) X_InvalidOperation)) pss_nil)
  (pss_cons (ps_set (i := 5) sc_Number_over.nd rfl (by first | exact Or.inl rfl | exact Or.inr rfl) (pe_op op_sub (pe_op op_mulX (pe_slC TN.cN TN.sN_top (pv 0)) (pe_slC TN.cN TN.sN_top (pv 2))) (pe_op op_mulX (pe_op op_mulX (pe_slC TN.cN TN.sN_part (pv 0)) (pe_slC TN.cN TN.sN_part (pv 2))) (pv 3))))
  (pss_cons (ps_set (i := 6) sc_Number_over.nd rfl (by first | exact Or.inl rfl | exact Or.inr rfl) (pe_op op_sub (pe_op op_mulX (pe_slC TN.cN TN.sN_part (pv 0)) (pe_slC TN.cN TN.sN_top (pv 2))) (pe_op op_mulX (pe_slC TN.cN TN.sN_top (pv 0)) (pe_slC TN.cN TN.sN_part (pv 2)))))
  (pss_one (ps_ret (pe_m1 G_Number (hr.mono (by decide)) (pa_cons (pe_m1 G_Form (hr.mono (by decide)) (pa_cons (pe_op op_mulX (pv 5) (pe_slC TN.cN TN.sN_bottom (pv 2))) (pa_cons (pe_op op_mulX (pv 6) (pe_slC TN.cN TN.sN_bottom (pv 2))) (pa_cons (pv 3) (pa_cons (pe_op op_mulX (pv 4) (pe_slC TN.cN TN.sN_bottom (pv 0))) pa_nil))))) pa_nil)))))))))), ?_⟩)
  refine fn_bodyF (K := K) (X := E) (S := (aCons (rNum CN) (aCons (rUn (rDt K) (rNum CN)) aNil))) (E' := eNil) (R := (rNum CN)) (st_par (st_par (st_un (st_un (st_un (st_un (st_un st_nil))))))) rfl (s_seq (s_asg (e_callF (fun _ => rfl) (sa_safe (a_cons (e_var gt1) a_nil))) (g_name pu2))
  (s_seq (s_asg (e_callF (fun _ => rfl) (sa_safe (a_cons (e_var get0) (a_cons (e_var gt2) a_nil)))) (g_name pu3))
  (s_seq (ss_safe (s_asg (e_op (o_ii fun _ _ => rfl) (e_op (o_iiC fun _ _ => rfl) (e_slot slg_own_top_num (e_var gt2)) (e_slot slg_own_top_num (e_var gt2))) (e_op (o_iiC fun _ _ => rfl) (e_op (o_iiC fun _ _ => rfl) (e_slot slg_own_part_num (e_var gt2)) (e_slot slg_own_part_num (e_var gt2))) (e_var gt3))) (g_name pu4)))
  (s_seq (s_if (st_safe (t_of (e_op (o_eq sc_int) (e_var gt4) e_int))) (s_raiseN (fl := flE) X_InvalidOperation.gl (by decide +kernel) (fun _ => rfl)) (ss_safe s_nil))
  (s_seq (ss_safe (s_asg (e_op (o_ii fun _ _ => rfl) (e_op (o_iiC fun _ _ => rfl) (e_slot slg_own_top_num (e_var get0)) (e_slot slg_own_top_num (e_var gt2))) (e_op (o_iiC fun _ _ => rfl) (e_op (o_iiC fun _ _ => rfl) (e_slot slg_own_part_num (e_var get0)) (e_slot slg_own_part_num (e_var gt2))) (e_var gt3))) (g_name pu5)))
  (s_seq (ss_safe (s_asg (e_op (o_ii fun _ _ => rfl) (e_op (o_iiC fun _ _ => rfl) (e_slot slg_own_part_num (e_var get0)) (e_slot slg_own_top_num (e_var gt2))) (e_op (o_iiC fun _ _ => rfl) (e_slot slg_own_top_num (e_var get0)) (e_slot slg_own_part_num (e_var gt2)))) (g_name pu6)))
  (ss_safe (s_ret (e_mkNumF (e_mkForm (e_op (o_iiC fun _ _ => rfl) (e_var gt5) (e_slot slg_own_bottom_num (e_var gt2))) (e_op (o_iiC fun _ _ => rfl) (e_var gt6) (e_slot slg_own_bottom_num (e_var gt2))) (e_var gt3) (e_op (o_iiC fun _ _ => rfl) (e_var gt4) (e_slot slg_own_bottom_num (e_var get0))))))))))))) ?_
  exact h
theorem sc_Number___add__ : FnScope ["self", "other", "more", "root", "top", "part"] ["self", "other"] (defScope (inClass (topS 21) 13)) := ⟨rfl, rfl, rfl, by decide +kernel, rfl, by decide +kernel, by decide +kernel⟩
noncomputable def b_Number___add___X (ρ : (Nm × (Nm × (Unit × (Unit × (Unit × (Unit × Unit))))))) : M (Ct Unit Unit Nm) := (M.thn (M.safe (M.bind (M.bind (M.bind (M.bind (M.bind (M.ret ρ.2.1) fun x234 => M.ret (Sum.inr x234 : (Sum PyData Nm))) fun x235 => M.bind (M.ret ()) fun x236 => M.ret (x235, x236)) fun r237 => M.still (m_is_like_number_V r237)) fun x238 => M.ret (!x238)) fun x239 => M.ifb x239 M.none (M.ret (.nx ρ)))) fun ρ => (M.thn (M.safe (M.bind (M.bind (M.bind (M.bind (M.ret ρ.2.1) fun x240 => M.ret (Sum.inr x240 : (Sum PyData Nm))) fun x241 => M.bind (M.ret ()) fun x242 => M.ret (x241, x242)) fun r243 => M.still (m_number_of_V r243)) fun x244 => M.ret (.nx (ρ.1, ρ.2.1, x244, ρ.2.2.2)))) fun ρ => (M.thn (M.bind (M.bind (M.safe (M.bind (M.ret ρ.1) fun x247 => M.bind (M.bind (M.ret ρ.2.2.1) fun x245 => M.bind (M.ret ()) fun x246 => M.ret (x245, x246)) fun x248 => M.ret (x247, x248))) fun r249 => M.still (m_common_root_X r249)) fun x250 => M.ret (.nx (ρ.1, ρ.2.1, ρ.2.2.1, x250, ρ.2.2.2.2))) fun ρ => (M.thn (M.safe (M.bind (M.bind (M.bind (M.bind (M.ret ρ.1) fun x251 => M.ret (Nm.t x251)) fun x253 => M.bind (M.bind (M.ret ρ.2.2.1) fun x252 => M.ret (Nm.b x252)) fun x254 => M.need (CMulX x253 x254) (M.ret (x253 * x254))) fun x259 => M.bind (M.bind (M.bind (M.ret ρ.2.2.1) fun x255 => M.ret (Nm.t x255)) fun x257 => M.bind (M.bind (M.ret ρ.1) fun x256 => M.ret (Nm.b x256)) fun x258 => M.need (CMulX x257 x258) (M.ret (x257 * x258))) fun x260 => M.ret (x259 + x260)) fun x261 => M.ret (.nx (ρ.1, ρ.2.1, ρ.2.2.1, ρ.2.2.2.1, x261, ρ.2.2.2.2.2)))) fun ρ => (M.thn (M.safe (M.bind (M.bind (M.bind (M.bind (M.ret ρ.1) fun x262 => M.ret (Nm.p x262)) fun x264 => M.bind (M.bind (M.ret ρ.2.2.1) fun x263 => M.ret (Nm.b x263)) fun x265 => M.need (CMulX x264 x265) (M.ret (x264 * x265))) fun x270 => M.bind (M.bind (M.bind (M.ret ρ.2.2.1) fun x266 => M.ret (Nm.p x266)) fun x268 => M.bind (M.bind (M.ret ρ.1) fun x267 => M.ret (Nm.b x267)) fun x269 => M.need (CMulX x268 x269) (M.ret (x268 * x269))) fun x271 => M.ret (x270 + x271)) fun x272 => M.ret (.nx (ρ.1, ρ.2.1, ρ.2.2.1, ρ.2.2.2.1, ρ.2.2.2.2.1, x272, ρ.2.2.2.2.2.2)))) fun ρ => (M.safe (M.bind (M.bind (M.ret ρ.2.2.2.2.1) fun x277 => M.bind (M.ret ρ.2.2.2.2.2.1) fun x278 => M.bind (M.ret ρ.2.2.2.1) fun x279 => M.bind (M.bind (M.bind (M.ret ρ.1) fun x273 => M.ret (Nm.b x273)) fun x275 => M.bind (M.bind (M.ret ρ.2.2.1) fun x274 => M.ret (Nm.b x274)) fun x276 => M.need (CMulX x275 x276) (M.ret (x275 * x276))) fun x280 => M.need (x280 ≠ 0 ∧ Bd 9000 x280) (M.ret (mkNm x277 x278 x279 x280))) fun x281 => M.ret (.rt x281))))))))
noncomputable def m_Number___add___X (a : (Nm × (Nm × Unit))) : M Nm := M.fin (b_Number___add___X (a.1, (a.2.1, ((), ((), ((), ((), ())))))))
theorem ok_Number___add___X (F : Fun K "__add__" "Number.__add__" (inClass (topS 21) 13) f fd) (G_is_like_number_V : GD P w K mg base "is_like_number" 3 (spOf (aCons (rUn (rDt K) (rNum CN)) aNil) rBl m_is_like_number_V)) (G_number_of_V : GD P w K mg base "number_of" 8 (spOf (aCons (rUn (rDt K) (rNum CN)) aNil) (rNum CN) m_number_of_V)) (R_common_root : GR P w K mg base "common_root" 2 (spOfF K mg flE (aCons (rNum CN) (aCons (rNum CN) aNil)) rInt m_common_root_X)) (TN : NTxt K mg CN CF) (G_Number : GM P w K mg base "Number" CN 6 [.int 0, .int 0, .int 1] (spNumI CN CF)) (G_Form : GM P w K mg base "Form" CF 3 [] (spFormI CF)) : FnOk P w K mg base (L2.CX P w) 9 f fd ["self", "other"] (spOfF K mg flE (aCons (rNum CN) (aCons (rNum CN) aNil)) (rNum CN) m_Number___add___X) := by
  refine F.okX sc_Number___add__ (fun vs H Q E h => spOfF_len h) (fun cdv A outer s H vs Q E hr h => ⟨_, (pss_cons (ps_if (pt_not (pt_val (pe_c1 G_is_like_number_V (hr.mono (by decide)) (pa_cons (pv 1) pa_nil)))) (pss_one ps_never) pss_nil)
  (pss_cons (ps_set (i := 2) sc_Number___add__.nd rfl (by first | exact Or.inl rfl | exact Or.inr rfl) (pe_c1 G_number_of_V (hr.mono (by decide)) (pa_cons (pv 1) pa_nil)))
  (pss_cons (ps_set (i := 3) sc_Number___add__.nd rfl (by first | exact Or.inl rfl | exact Or.inr rfl) (pe_cX (takes_of rfl rfl rfl rfl) R_common_root (hr.mono (by decide)) (pa_cons (pv 0) (pa_cons (pv 2) pa_nil))))
  (pss_cons (ps_set (i := 4) sc_Number___add__.nd rfl (by first | exact Or.inl rfl | exact Or.inr rfl) (pe_op op_add (pe_op op_mulX (pe_slC TN.cN TN.sN_top (pv 0)) (pe_slC TN.cN TN.sN_bottom (pv 2))) (pe_op op_mulX (pe_slC TN.cN TN.sN_top (pv 2)) (pe_slC TN.cN TN.sN_bottom (pv 0)))))
  (pss_cons (ps_set (i := 5) sc_Number___add__.nd rfl (by first | exact Or.inl rfl | exact Or.inr rfl) (pe_op op_add (pe_op op_mulX (pe_slC TN.cN TN.sN_part (pv 0)) (pe_slC TN.cN TN.sN_bottom (pv 2))) (pe_op op_mulX (pe_slC TN.cN TN.sN_part (pv 2)) (pe_slC TN.cN TN.sN_bottom (pv 0)))))
  (pss_one (ps_ret (pe_m1 G_Number (hr.mono (by decide)) (pa_cons (pe_m1 G_Form (hr.mono (by decide)) (pa_cons (pv 4) (pa_cons (pv 5) (pa_cons (pv 3) (pa_cons (pe_op op_mulX (pe_slC TN.cN TN.sN_bottom (pv 0)) (pe_slC TN.cN TN.sN_bottom (pv 2))) pa_nil))))) pa_nil))))))))), ?_⟩)
  refine fn_bodyF (K := K) (X := E) (S := (aCons (rNum CN) (aCons (rNum CN) aNil))) (E' := eNil) (R := (rNum CN)) (st_par (st_par (st_un (st_un (st_un (st_un st_nil)))))) rfl (s_seq (ss_safe (s_if (t_not (t_b (e_call (a_cons (e_coeX (Rb := (rUn (rDt K) (rNum CN))) coe_r (e_var gt1)) a_nil)))) s_never s_nil))
  (s_seq (ss_safe (s_asg (e_call (a_cons (e_coeX (Rb := (rUn (rDt K) (rNum CN))) coe_r (e_var gt1)) a_nil)) (g_name pu2)))
  (s_seq (s_asg (e_callF (fun _ => rfl) (sa_safe (a_cons (e_var get0) (a_cons (e_var gt2) a_nil)))) (g_name pu3))
  (s_seq (ss_safe (s_asg (e_op (o_ii fun _ _ => rfl) (e_op (o_iiC fun _ _ => rfl) (e_slot slg_own_top_num (e_var get0)) (e_slot slg_own_bottom_num (e_var gt2))) (e_op (o_iiC fun _ _ => rfl) (e_slot slg_own_top_num (e_var gt2)) (e_slot slg_own_bottom_num (e_var get0)))) (g_name pu4)))
  (s_seq (ss_safe (s_asg (e_op (o_ii fun _ _ => rfl) (e_op (o_iiC fun _ _ => rfl) (e_slot slg_own_part_num (e_var get0)) (e_slot slg_own_bottom_num (e_var gt2))) (e_op (o_iiC fun _ _ => rfl) (e_slot slg_own_part_num (e_var gt2)) (e_slot slg_own_bottom_num (e_var get0)))) (g_name pu5)))
  (ss_safe (s_ret (e_mkNumF (e_mkForm (e_var gt4) (e_var gt5) (e_var gt3) (e_op (o_iiC fun _ _ => rfl) (e_slot slg_own_bottom_num (e_var get0)) (e_slot slg_own_bottom_num (e_var gt2)))))))))))) ?_
  exact h
theorem sc_Number___sub__ : FnScope ["self", "other", "less", "root", "top", "part"] ["self", "other"] (defScope (inClass (topS 21) 14)) := ⟨rfl, rfl, rfl, by decide +kernel, rfl, by decide +kernel, by decide +kernel⟩
noncomputable def b_Number___sub___X (ρ : (Nm × (Nm × (Unit × (Unit × (Unit × (Unit × Unit))))))) : M (Ct Unit Unit Nm) := (M.thn (M.safe (M.bind (M.bind (M.bind (M.bind (M.bind (M.ret ρ.2.1) fun x282 => M.ret (Sum.inr x282 : (Sum PyData Nm))) fun x283 => M.bind (M.ret ()) fun x284 => M.ret (x283, x284)) fun r285 => M.still (m_is_like_number_V r285)) fun x286 => M.ret (!x286)) fun x287 => M.ifb x287 M.none (M.ret (.nx ρ)))) fun ρ => (M.thn (M.safe (M.bind (M.bind (M.bind (M.bind (M.ret ρ.2.1) fun x288 => M.ret (Sum.inr x288 : (Sum PyData Nm))) fun x289 => M.bind (M.ret ()) fun x290 => M.ret (x289, x290)) fun r291 => M.still (m_number_of_V r291)) fun x292 => M.ret (.nx (ρ.1, ρ.2.1, x292, ρ.2.2.2)))) fun ρ => (M.thn (M.bind (M.bind (M.safe (M.bind (M.ret ρ.1) fun x295 => M.bind (M.bind (M.ret ρ.2.2.1) fun x293 => M.bind (M.ret ()) fun x294 => M.ret (x293, x294)) fun x296 => M.ret (x295, x296))) fun r297 => M.still (m_common_root_X r297)) fun x298 => M.ret (.nx (ρ.1, ρ.2.1, ρ.2.2.1, x298, ρ.2.2.2.2))) fun ρ => (M.thn (M.safe (M.bind (M.bind (M.bind (M.bind (M.ret ρ.1) fun x299 => M.ret (Nm.t x299)) fun x301 => M.bind (M.bind (M.ret ρ.2.2.1) fun x300 => M.ret (Nm.b x300)) fun x302 => M.need (CMulX x301 x302) (M.ret (x301 * x302))) fun x307 => M.bind (M.bind (M.bind (M.ret ρ.2.2.1) fun x303 => M.ret (Nm.t x303)) fun x305 => M.bind (M.bind (M.ret ρ.1) fun x304 => M.ret (Nm.b x304)) fun x306 => M.need (CMulX x305 x306) (M.ret (x305 * x306))) fun x308 => M.ret (x307 - x308)) fun x309 => M.ret (.nx (ρ.1, ρ.2.1, ρ.2.2.1, ρ.2.2.2.1, x309, ρ.2.2.2.2.2)))) fun ρ => (M.thn (M.safe (M.bind (M.bind (M.bind (M.bind (M.ret ρ.1) fun x310 => M.ret (Nm.p x310)) fun x312 => M.bind (M.bind (M.ret ρ.2.2.1) fun x311 => M.ret (Nm.b x311)) fun x313 => M.need (CMulX x312 x313) (M.ret (x312 * x313))) fun x318 => M.bind (M.bind (M.bind (M.ret ρ.2.2.1) fun x314 => M.ret (Nm.p x314)) fun x316 => M.bind (M.bind (M.ret ρ.1) fun x315 => M.ret (Nm.b x315)) fun x317 => M.need (CMulX x316 x317) (M.ret (x316 * x317))) fun x319 => M.ret (x318 - x319)) fun x320 => M.ret (.nx (ρ.1, ρ.2.1, ρ.2.2.1, ρ.2.2.2.1, ρ.2.2.2.2.1, x320, ρ.2.2.2.2.2.2)))) fun ρ => (M.safe (M.bind (M.bind (M.ret ρ.2.2.2.2.1) fun x325 => M.bind (M.ret ρ.2.2.2.2.2.1) fun x326 => M.bind (M.ret ρ.2.2.2.1) fun x327 => M.bind (M.bind (M.bind (M.ret ρ.1) fun x321 => M.ret (Nm.b x321)) fun x323 => M.bind (M.bind (M.ret ρ.2.2.1) fun x322 => M.ret (Nm.b x322)) fun x324 => M.need (CMulX x323 x324) (M.ret (x323 * x324))) fun x328 => M.need (x328 ≠ 0 ∧ Bd 9000 x328) (M.ret (mkNm x325 x326 x327 x328))) fun x329 => M.ret (.rt x329))))))))
noncomputable def m_Number___sub___X (a : (Nm × (Nm × Unit))) : M Nm := M.fin (b_Number___sub___X (a.1, (a.2.1, ((), ((), ((), ((), ())))))))
theorem ok_Number___sub___X (F : Fun K "__sub__" "Number.__sub__" (inClass (topS 21) 14) f fd) (G_is_like_number_V : GD P w K mg base "is_like_number" 3 (spOf (aCons (rUn (rDt K) (rNum CN)) aNil) rBl m_is_like_number_V)) (G_number_of_V : GD P w K mg base "number_of" 8 (spOf (aCons (rUn (rDt K) (rNum CN)) aNil) (rNum CN) m_number_of_V)) (R_common_root : GR P w K mg base "common_root" 2 (spOfF K mg flE (aCons (rNum CN) (aCons (rNum CN) aNil)) rInt m_common_root_X)) (TN : NTxt K mg CN CF) (G_Number : GM P w K mg base "Number" CN 6 [.int 0, .int 0, .int 1] (spNumI CN CF)) (G_Form : GM P w K mg base "Form" CF 3 [] (spFormI CF)) : FnOk P w K mg base (L2.CX P w) 9 f fd ["self", "other"] (spOfF K mg flE (aCons (rNum CN) (aCons (rNum CN) aNil)) (rNum CN) m_Number___sub___X) := by
  refine F.okX sc_Number___sub__ (fun vs H Q E h => spOfF_len h) (fun cdv A outer s H vs Q E hr h => ⟨_, (pss_cons (ps_if (pt_not (pt_val (pe_c1 G_is_like_number_V (hr.mono (by decide)) (pa_cons (pv 1) pa_nil)))) (pss_one ps_never) pss_nil)
  (pss_cons (ps_set (i := 2) sc_Number___sub__.nd rfl (by first | exact Or.inl rfl | exact Or.inr rfl) (pe_c1 G_number_of_V (hr.mono (by decide)) (pa_cons (pv 1) pa_nil)))
  (pss_cons (ps_set (i := 3) sc_Number___sub__.nd rfl (by first | exact Or.inl rfl | exact Or.inr rfl) (pe_cX (takes_of rfl rfl rfl rfl) R_common_root (hr.mono (by decide)) (pa_cons (pv 0) (pa_cons (pv 2) pa_nil))))
  (pss_cons (ps_set (i := 4) sc_Number___sub__.nd rfl (by first | exact Or.inl rfl | exact Or.inr rfl) (pe_op op_sub (pe_op op_mulX (pe_slC TN.cN TN.sN_top (pv 0)) (pe_slC TN.cN TN.sN_bottom (pv 2))) (pe_op op_mulX (pe_slC TN.cN TN.sN_top (pv 2)) (pe_slC TN.cN TN.sN_bottom (pv 0)))))
  (pss_cons (ps_set (i := 5) sc_Number___sub__.nd rfl (by first | exact Or.inl rfl | exact Or.inr rfl) (pe_op op_sub (pe_op op_mulX (pe_slC TN.cN TN.sN_part (pv 0)) (pe_slC TN.cN TN.sN_bottom (pv 2))) (pe_op op_mulX (pe_slC TN.cN TN.sN_part (pv 2)) (pe_slC TN.cN TN.sN_bottom (pv 0)))))
  (pss_one (ps_ret (pe_m1 G_Number (hr.mono (by decide)) (pa_cons (pe_m1 G_Form (hr.mono (by decide)) (pa_cons (pv 4) (pa_cons (pv 5) (pa_cons (pv 3) (pa_cons (pe_op op_mulX (pe_slC TN.cN TN.sN_bottom (pv 0)) (pe_slC TN.cN TN.sN_bottom (pv 2))) pa_nil))))) pa_nil))))))))), ?_⟩)
  refine fn_bodyF (K := K) (X := E) (S := (aCons (rNum CN) (aCons (rNum CN) aNil))) (E' := eNil) (R := (rNum CN)) (st_par (st_par (st_un (st_un (st_un (st_un st_nil)))))) rfl (s_seq (ss_safe (s_if (t_not (t_b (e_call (a_cons (e_coeX (Rb := (rUn (rDt K) (rNum CN))) coe_r (e_var gt1)) a_nil)))) s_never s_nil))
  (s_seq (ss_safe (s_asg (e_call (a_cons (e_coeX (Rb := (rUn (rDt K) (rNum CN))) coe_r (e_var gt1)) a_nil)) (g_name pu2)))
  (s_seq (s_asg (e_callF (fun _ => rfl) (sa_safe (a_cons (e_var get0) (a_cons (e_var gt2) a_nil)))) (g_name pu3))
  (s_seq (ss_safe (s_asg (e_op (o_ii fun _ _ => rfl) (e_op (o_iiC fun _ _ => rfl) (e_slot slg_own_top_num (e_var get0)) (e_slot slg_own_bottom_num (e_var gt2))) (e_op (o_iiC fun _ _ => rfl) (e_slot slg_own_top_num (e_var gt2)) (e_slot slg_own_bottom_num (e_var get0)))) (g_name pu4)))
  (s_seq (ss_safe (s_asg (e_op (o_ii fun _ _ => rfl) (e_op (o_iiC fun _ _ => rfl) (e_slot slg_own_part_num (e_var get0)) (e_slot slg_own_bottom_num (e_var gt2))) (e_op (o_iiC fun _ _ => rfl) (e_slot slg_own_part_num (e_var gt2)) (e_slot slg_own_bottom_num (e_var get0)))) (g_name pu5)))
  (ss_safe (s_ret (e_mkNumF (e_mkForm (e_var gt4) (e_var gt5) (e_var gt3) (e_op (o_iiC fun _ _ => rfl) (e_slot slg_own_bottom_num (e_var get0)) (e_slot slg_own_bottom_num (e_var gt2)))))))))))) ?_
  exact h
theorem sc_Number___mul__ : FnScope ["self", "other", "more", "root", "top", "part"] ["self", "other"] (defScope (inClass (topS 21) 15)) := ⟨rfl, rfl, rfl, by decide +kernel, rfl, by decide +kernel, by decide +kernel⟩
noncomputable def b_Number___mul___X (ρ : (Nm × (Nm × (Unit × (Unit × (Unit × (Unit × Unit))))))) : M (Ct Unit Unit Nm) := (M.thn (M.safe (M.bind (M.bind (M.bind (M.bind (M.bind (M.ret ρ.2.1) fun x330 => M.ret (Sum.inr x330 : (Sum PyData Nm))) fun x331 => M.bind (M.ret ()) fun x332 => M.ret (x331, x332)) fun r333 => M.still (m_is_like_number_V r333)) fun x334 => M.ret (!x334)) fun x335 => M.ifb x335 M.none (M.ret (.nx ρ)))) fun ρ => (M.thn (M.safe (M.bind (M.bind (M.bind (M.bind (M.ret ρ.2.1) fun x336 => M.ret (Sum.inr x336 : (Sum PyData Nm))) fun x337 => M.bind (M.ret ()) fun x338 => M.ret (x337, x338)) fun r339 => M.still (m_number_of_V r339)) fun x340 => M.ret (.nx (ρ.1, ρ.2.1, x340, ρ.2.2.2)))) fun ρ => (M.thn (M.bind (M.bind (M.safe (M.bind (M.ret ρ.1) fun x343 => M.bind (M.bind (M.ret ρ.2.2.1) fun x341 => M.bind (M.ret ()) fun x342 => M.ret (x341, x342)) fun x344 => M.ret (x343, x344))) fun r345 => M.still (m_common_root_X r345)) fun x346 => M.ret (.nx (ρ.1, ρ.2.1, ρ.2.2.1, x346, ρ.2.2.2.2))) fun ρ => (M.thn (M.safe (M.bind (M.bind (M.bind (M.bind (M.ret ρ.1) fun x347 => M.ret (Nm.t x347)) fun x349 => M.bind (M.bind (M.ret ρ.2.2.1) fun x348 => M.ret (Nm.t x348)) fun x350 => M.need (CMulX x349 x350) (M.ret (x349 * x350))) fun x357 => M.bind (M.bind (M.bind (M.bind (M.ret ρ.1) fun x351 => M.ret (Nm.p x351)) fun x353 => M.bind (M.bind (M.ret ρ.2.2.1) fun x352 => M.ret (Nm.p x352)) fun x354 => M.need (CMulX x353 x354) (M.ret (x353 * x354))) fun x355 => M.bind (M.ret ρ.2.2.2.1) fun x356 => M.need (CMulX x355 x356) (M.ret (x355 * x356))) fun x358 => M.ret (x357 + x358)) fun x359 => M.ret (.nx (ρ.1, ρ.2.1, ρ.2.2.1, ρ.2.2.2.1, x359, ρ.2.2.2.2.2)))) fun ρ => (M.thn (M.safe (M.bind (M.bind (M.bind (M.bind (M.ret ρ.1) fun x360 => M.ret (Nm.t x360)) fun x362 => M.bind (M.bind (M.ret ρ.2.2.1) fun x361 => M.ret (Nm.p x361)) fun x363 => M.need (CMulX x362 x363) (M.ret (x362 * x363))) fun x368 => M.bind (M.bind (M.bind (M.ret ρ.1) fun x364 => M.ret (Nm.p x364)) fun x366 => M.bind (M.bind (M.ret ρ.2.2.1) fun x365 => M.ret (Nm.t x365)) fun x367 => M.need (CMulX x366 x367) (M.ret (x366 * x367))) fun x369 => M.ret (x368 + x369)) fun x370 => M.ret (.nx (ρ.1, ρ.2.1, ρ.2.2.1, ρ.2.2.2.1, ρ.2.2.2.2.1, x370, ρ.2.2.2.2.2.2)))) fun ρ => (M.safe (M.bind (M.bind (M.ret ρ.2.2.2.2.1) fun x375 => M.bind (M.ret ρ.2.2.2.2.2.1) fun x376 => M.bind (M.ret ρ.2.2.2.1) fun x377 => M.bind (M.bind (M.bind (M.ret ρ.1) fun x371 => M.ret (Nm.b x371)) fun x373 => M.bind (M.bind (M.ret ρ.2.2.1) fun x372 => M.ret (Nm.b x372)) fun x374 => M.need (CMulX x373 x374) (M.ret (x373 * x374))) fun x378 => M.need (x378 ≠ 0 ∧ Bd 9000 x378) (M.ret (mkNm x375 x376 x377 x378))) fun x379 => M.ret (.rt x379))))))))
noncomputable def m_Number___mul___X (a : (Nm × (Nm × Unit))) : M Nm := M.fin (b_Number___mul___X (a.1, (a.2.1, ((), ((), ((), ((), ())))))))
theorem ok_Number___mul___X (F : Fun K "__mul__" "Number.__mul__" (inClass (topS 21) 15) f fd) (G_is_like_number_V : GD P w K mg base "is_like_number" 3 (spOf (aCons (rUn (rDt K) (rNum CN)) aNil) rBl m_is_like_number_V)) (G_number_of_V : GD P w K mg base "number_of" 8 (spOf (aCons (rUn (rDt K) (rNum CN)) aNil) (rNum CN) m_number_of_V)) (R_common_root : GR P w K mg base "common_root" 2 (spOfF K mg flE (aCons (rNum CN) (aCons (rNum CN) aNil)) rInt m_common_root_X)) (TN : NTxt K mg CN CF) (G_Number : GM P w K mg base "Number" CN 6 [.int 0, .int 0, .int 1] (spNumI CN CF)) (G_Form : GM P w K mg base "Form" CF 3 [] (spFormI CF)) : FnOk P w K mg base (L2.CX P w) 9 f fd ["self", "other"] (spOfF K mg flE (aCons (rNum CN) (aCons (rNum CN) aNil)) (rNum CN) m_Number___mul___X) := by
  refine F.okX sc_Number___mul__ (fun vs H Q E h => spOfF_len h) (fun cdv A outer s H vs Q E hr h => ⟨_, (pss_cons (ps_if (pt_not (pt_val (pe_c1 G_is_like_number_V (hr.mono (by decide)) (pa_cons (pv 1) pa_nil)))) (pss_one ps_never) pss_nil)
  (pss_cons (ps_set (i := 2) sc_Number___mul__.nd rfl (by first | exact Or.inl rfl | exact Or.inr rfl) (pe_c1 G_number_of_V (hr.mono (by decide)) (pa_cons (pv 1) pa_nil)))
  (pss_cons (ps_set (i := 3) sc_Number___mul__.nd rfl (by first | exact Or.inl rfl | exact Or.inr rfl) (pe_cX (takes_of rfl rfl rfl rfl) R_common_root (hr.mono (by decide)) (pa_cons (pv 0) (pa_cons (pv 2) pa_nil))))
  (pss_cons (ps_set (i := 4) sc_Number___mul__.nd rfl (by first | exact Or.inl rfl | exact Or.inr rfl) (pe_op op_add (pe_op op_mulX (pe_slC TN.cN TN.sN_top (pv 0)) (pe_slC TN.cN TN.sN_top (pv 2))) (pe_op op_mulX (pe_op op_mulX (pe_slC TN.cN TN.sN_part (pv 0)) (pe_slC TN.cN TN.sN_part (pv 2))) (pv 3))))
  (pss_cons (ps_set (i := 5) sc_Number___mul__.nd rfl (by first | exact Or.inl rfl | exact Or.inr rfl) (pe_op op_add (pe_op op_mulX (pe_slC TN.cN TN.sN_top (pv 0)) (pe_slC TN.cN TN.sN_part (pv 2))) (pe_op op_mulX (pe_slC TN.cN TN.sN_part (pv 0)) (pe_slC TN.cN TN.sN_top (pv 2)))))
  (pss_one (ps_ret (pe_m1 G_Number (hr.mono (by decide)) (pa_cons (pe_m1 G_Form (hr.mono (by decide)) (pa_cons (pv 4) (pa_cons (pv 5) (pa_cons (pv 3) (pa_cons (pe_op op_mulX (pe_slC TN.cN TN.sN_bottom (pv 0)) (pe_slC TN.cN TN.sN_bottom (pv 2))) pa_nil))))) pa_nil))))))))), ?_⟩)
  refine fn_bodyF (K := K) (X := E) (S := (aCons (rNum CN) (aCons (rNum CN) aNil))) (E' := eNil) (R := (rNum CN)) (st_par (st_par (st_un (st_un (st_un (st_un st_nil)))))) rfl (s_seq (ss_safe (s_if (t_not (t_b (e_call (a_cons (e_coeX (Rb := (rUn (rDt K) (rNum CN))) coe_r (e_var gt1)) a_nil)))) s_never s_nil))
  (s_seq (ss_safe (s_asg (e_call (a_cons (e_coeX (Rb := (rUn (rDt K) (rNum CN))) coe_r (e_var gt1)) a_nil)) (g_name pu2)))
  (s_seq (s_asg (e_callF (fun _ => rfl) (sa_safe (a_cons (e_var get0) (a_cons (e_var gt2) a_nil)))) (g_name pu3))
  (s_seq (ss_safe (s_asg (e_op (o_ii fun _ _ => rfl) (e_op (o_iiC fun _ _ => rfl) (e_slot slg_own_top_num (e_var get0)) (e_slot slg_own_top_num (e_var gt2))) (e_op (o_iiC fun _ _ => rfl) (e_op (o_iiC fun _ _ => rfl) (e_slot slg_own_part_num (e_var get0)) (e_slot slg_own_part_num (e_var gt2))) (e_var gt3))) (g_name pu4)))
  (s_seq (ss_safe (s_asg (e_op (o_ii fun _ _ => rfl) (e_op (o_iiC fun _ _ => rfl) (e_slot slg_own_top_num (e_var get0)) (e_slot slg_own_part_num (e_var gt2))) (e_op (o_iiC fun _ _ => rfl) (e_slot slg_own_part_num (e_var get0)) (e_slot slg_own_top_num (e_var gt2)))) (g_name pu5)))
  (ss_safe (s_ret (e_mkNumF (e_mkForm (e_var gt4) (e_var gt5) (e_var gt3) (e_op (o_iiC fun _ _ => rfl) (e_slot slg_own_bottom_num (e_var get0)) (e_slot slg_own_bottom_num (e_var gt2)))))))))))) ?_
  exact h
theorem sc_go_together : FnScope ["numbers", "number"] ["numbers"] (defScope (topS 26)) := ⟨rfl, rfl, rfl, by decide +kernel, rfl, by decide +kernel, by decide +kernel⟩
noncomputable def b_go_together (ρ : ((List Nm) × (Unit × Unit))) : M (Ct Unit Unit Bool) := (M.bind (M.bind (M.bind (M.bind (M.ret ρ.1) fun l385 => M.need (l385.length ≤ 1000000) (M.lcM l385 fun (a386 : Nm) => M.bind ((fun ρ => (M.bind (M.bind (M.ret ρ.2.1) fun x380 => M.ret (Nm.r x380)) fun x381 => M.bind (M.ret (0 : Int)) fun x382 => M.ret (!decide (x381 = x382)))) (ρ.1, a386, ρ.2.2)) fun (b387 : Bool) => M.ifb b387 (M.bind ((fun ρ => (M.bind (M.ret ρ.2.1) fun x383 => M.ret (Nm.r x383))) (ρ.1, a386, ρ.2.2)) fun (y388 : Int) => M.ret (some y388)) (M.ret none))) fun x389 => M.need (x389.length ≤ 4000) (M.ret ((ddI x389).length : Int))) fun x390 => M.bind (M.ret (1 : Int)) fun x391 => M.ret (decide (x390 ≤ x391))) fun x392 => M.ret (.rt x392))
noncomputable def m_go_together (a : ((List Nm) × Unit)) : M Bool := M.fin (b_go_together (a.1, ((), ())))
theorem ok_go_together (F : Fun K "go_together" "go_together" (topS 26) f fd) (TN : NTxt K mg CN CF) (fr : Free mg) : FnOk P w K mg base CX0 2 f fd ["numbers"] (spOf (aCons (rTup K (rNum CN)) aNil) rBl m_go_together) := by
  refine F.ok sc_go_together (fun vs H Q E h => spOf_len h) (fun cdv A outer s H vs Q E hr h => ⟨_, (pss_one (ps_ret (pe_cmpR op_le (pe_lenSetJ (by rfl) fr.b_len (by rfl) fr.b_set (pe_lc (own := [("number", 1)]) (by rfl) sc_go_together.nd  (pi_tup (pv 0)) (blkOk_by (own := [("number", 1)]) (N := ["numbers", "number"]) (sc := defScope (topS 26)) (by decide +kernel)) (fun _ _ _ _ _ => (pg_name (i := 1) sc_go_together.nd rfl (by first | exact Or.inl rfl | exact Or.inr rfl))) (fun _ _ _ _ _ => (pts_one (pt_cmpR op_ne (pe_slC TN.cN TN.sN_root (pv 1)) pe_int (nomark _)))) (fun _ _ _ _ _ => (pe_slC TN.cN TN.sN_root (pv 1))))) pe_int (nomark _)))), ?_⟩)
  refine fn_body (X := E) (S := (aCons (rTup K (rNum CN)) aNil)) (E' := eNil) (R := rBl) (st_par (st_un st_nil)) rfl (s_ret (e_op (o_ib fun _ _ => rfl) (e_lenSetJ (SN.se (n_lc (i_tup (e_var get0)) (gw_name pu1) (t_of (e_op (o_ne sc_int) (e_slot slg_own_root_num (e_var gt1)) e_int)) (e_slot slg_own_root_num (e_var gt1))))) e_int)) ?_
  exact h
theorem sc_have_one_root : FnScope ["numbers", "number"] ["numbers"] (defScope (topS 27)) := ⟨rfl, rfl, rfl, by decide +kernel, rfl, by decide +kernel, by decide +kernel⟩
noncomputable def b_have_one_root (ρ : ((List Nm) × (Unit × Unit))) : M (Ct Unit Unit Bool) := (M.thn (M.bind (M.bind (M.bind (M.bind (M.bind (M.ret ρ.1) fun x395 => M.bind (M.bind (M.ret ()) fun x393 => M.bind (M.ret ()) fun x394 => M.ret (x393, x394)) fun x396 => M.ret (x395, x396)) fun r397 => M.ret true) fun x398 => M.ret (!x398)) fun x413 => M.ifb x413 (M.ret true) (M.bind (M.bind (M.bind (M.bind (M.ret ρ.1) fun l405 => M.need (l405.length ≤ 1000000) (M.lcM l405 fun (a406 : Nm) => M.bind ((fun ρ => (M.ret true)) (ρ.1, a406, ρ.2.2)) fun (b407 : Bool) => M.ifb b407 (M.bind ((fun ρ => (M.bind (M.bind (M.ret ρ.2.1) fun x401 => M.bind (M.bind (M.ret ()) fun x399 => M.bind (M.ret ()) fun x400 => M.ret (x399, x400)) fun x402 => M.ret (x401, x402)) fun r403 => M.ret true)) (ρ.1, a406, ρ.2.2)) fun (y408 : Bool) => M.ret (some y408)) (M.ret none))) fun x409 => M.bind (M.ret ()) fun x410 => M.ret (x409, x410)) fun r411 => M.ret (r411.1.all id)) fun x412 => M.ret (!x412))) fun x414 => M.ifb x414 M.none (M.ret (.nx ρ))) fun ρ => (M.bind (M.bind (M.bind (M.ret ρ.1) fun x415 => M.bind (M.ret ()) fun x416 => M.ret (x415, x416)) fun r417 => M.still (m_go_together r417)) fun x418 => M.ret (.rt x418)))
noncomputable def m_have_one_root (a : ((List Nm) × Unit)) : M Bool := M.fin (b_have_one_root (a.1, ((), ())))
theorem ok_have_one_root (F : Fun K "have_one_root" "have_one_root" (topS 27) f fd) (fr : Free mg) (TN : NTxt K mg CN CF) (G_go_together : GD P w K mg base "go_together" 2 (spOf (aCons (rTup K (rNum CN)) aNil) rBl m_go_together)) : FnOk P w K mg base CX0 3 f fd ["numbers"] (spOf (aCons (rTup K (rNum CN)) aNil) rBl m_have_one_root) := by
  refine F.ok sc_have_one_root (fun vs H Q E h => spOf_len h) (fun cdv A outer s H vs Q E hr h => ⟨_, (pss_cons (ps_if (PW.pt (pw_or (pt_not (pt_val (pe_callB call_isiU (by rfl) fr.b_isinstance (by decide +kernel) (pa_cons (pv 0) (pa_cons (pe_bltn (v := .ty "tuple") (by rfl) fr.b_tuple (by decide +kernel) rfl) pa_nil))))) (pw_or1 (pt_not (pt_val (pe_callB (cr_all rfl) (by rfl) fr.b_all (by decide +kernel) (pa_cons (pe_lc (own := [("number", 1)]) (by rfl) sc_have_one_root.nd  (pi_tup (pv 0)) (blkOk_by (own := [("number", 1)]) (N := ["numbers", "number"]) (sc := defScope (topS 27)) (by decide +kernel)) (fun _ _ _ _ _ => (pg_name (i := 1) sc_have_one_root.nd rfl (by first | exact Or.inl rfl | exact Or.inr rfl))) (fun _ _ _ _ _ => pts_nil) (fun _ _ _ _ _ => (pe_callB (call_isiUK (K := K) rfl) (by rfl) fr.b_isinstance (by decide +kernel) (pa_cons (pv 1) (pa_cons (pe_glob (v := .ref CN) rfl TN.gN rfl) pa_nil))))) pa_nil))))))) (pss_one ps_never) pss_nil)
  (pss_one (ps_ret (pe_c1 G_go_together (hr.mono (by decide)) (pa_cons (pv 0) pa_nil))))), ?_⟩)
  refine fn_body (X := E) (S := (aCons (rTup K (rNum CN)) aNil)) (E' := eNil) (R := rBl) (st_par (st_un st_nil)) rfl (s_seq (s_if (t_or (t_not (t_b (e_ca (c_isiT (b := true) tr_tup (kit_ty (by decide +kernel))) (a_cons (e_var get0) (a_cons e_tyV a_nil))))) (t_not (t_b (e_ca c_all (a_cons (SN.se (n_lc (i_tup (e_var get0)) (gw_name pu1) t_yes (e_ca (c_isi (tr_num TN) (.own CN) TN.iNN fun h => h) (a_cons (e_var gt1) (a_cons e_clsV a_nil))))) a_nil))))) s_never s_nil)
  (s_ret (e_call (a_cons (e_var get0) a_nil)))) ?_
  exact h
noncomputable def b_have_one_root_X (ρ : ((Sum PyData (Sum (List Nm) (List (Sum PyData Nm)))) × (Unit × Unit))) : M (Ct Unit Unit Bool) := (M.thn (M.bind (M.safe (M.bind (M.bind (M.bind (M.bind (M.ret ρ.1) fun x421 => M.bind (M.bind (M.ret ()) fun x419 => M.bind (M.ret ()) fun x420 => M.ret (x419, x420)) fun x422 => M.ret (x421, x422)) fun r423 => (sumE (fun x => M.ret (isD "tuple" x)) (sumE (fun _ => M.ret false) (fun _ => M.ret true))) r423.1) fun x424 => M.ret (!x424)) fun x441 => M.ifb x441 (M.ret true) (M.bind (M.bind (M.bind (M.bind (M.bind (M.bind (M.ret ρ.1) fun x425 => M.the (rgtS x425)) fun x426 => M.the (rgtS x426)) fun l433 => M.need (l433.length ≤ 1000000) (M.lcM l433 fun (a434 : (Sum PyData Nm)) => M.bind ((fun ρ => (M.ret true)) (ρ.1, a434, ρ.2.2)) fun (b435 : Bool) => M.ifb b435 (M.bind ((fun ρ => (M.bind (M.bind (M.ret ρ.2.1) fun x429 => M.bind (M.bind (M.ret ()) fun x427 => M.bind (M.ret ()) fun x428 => M.ret (x427, x428)) fun x430 => M.ret (x429, x430)) fun r431 => (sumE (fun _ => M.ret false) (fun _ => M.ret true)) r431.1)) (ρ.1, a434, ρ.2.2)) fun (y436 : Bool) => M.ret (some y436)) (M.ret none))) fun x437 => M.bind (M.ret ()) fun x438 => M.ret (x437, x438)) fun r439 => M.ret (r439.1.all id)) fun x440 => M.ret (!x440)))) fun x442 => M.ifb x442 (M.raise ⟨"InvalidNumber", .none⟩) (M.safe (M.ret (.nx ρ)))) fun ρ => (M.safe (M.bind (M.none : M Bool) fun x443 => M.ret (.rt x443))))
noncomputable def m_have_one_root_X (a : ((Sum PyData (Sum (List Nm) (List (Sum PyData Nm)))) × Unit)) : M Bool := M.fin (b_have_one_root_X (a.1, ((), ())))
theorem ok_have_one_root_X (F : Fun K "have_one_root" "have_one_root" (topS 27) f fd) {A_InvalidNumber : Addr} (fr : Free mg) (TN : NTxt K mg CN CF) (ON : OdT K CN) (X_InvalidNumber : GX K mg "InvalidNumber" A_InvalidNumber) : FnOk P w K mg base (L2.CX P w) 2 f fd ["numbers"] (spOfF K mg flE (aCons (rUn (rDt K) (rUn (rLs (rNum CN)) (rTup K (rUn (rDt K) (rNum CN))))) aNil) rBl m_have_one_root_X) := by
  refine F.okX sc_have_one_root (fun vs H Q E h => spOfF_len h) (fun cdv A outer s H vs Q E hr h => ⟨_, (pss_cons (ps_if (PW.pt (pw_or (pt_not (pt_val (pe_callB call_isiU (by rfl) fr.b_isinstance (by decide +kernel) (pa_cons (pv 0) (pa_cons (pe_bltn (v := .ty "tuple") (by rfl) fr.b_tuple (by decide +kernel) rfl) pa_nil))))) (pw_or1 (pt_not (pt_val (pe_callB (cr_all rfl) (by rfl) fr.b_all (by decide +kernel) (pa_cons (pe_lc (own := [("number", 1)]) (by rfl) sc_have_one_root.nd  (pi_tup (pv 0)) (blkOk_by (own := [("number", 1)]) (N := ["numbers", "number"]) (sc := defScope (topS 27)) (by decide +kernel)) (fun _ _ _ _ _ => (pg_name (i := 1) sc_have_one_root.nd rfl (by first | exact Or.inl rfl | exact Or.inr rfl))) (fun _ _ _ _ _ => pts_nil) (fun _ _ _ _ _ => (pe_callB (call_isiUK (K := K) rfl) (by rfl) fr.b_isinstance (by decide +kernel) (pa_cons (pv 1) (pa_cons (pe_glob (v := .ref CN) rfl TN.gN rfl) pa_nil))))) pa_nil))))))) (pss_one (ps_raiseX (takes_of rfl rfl rfl rfl) X_InvalidNumber)) pss_nil)
  (pss_one (ps_ret pe_never))), ?_⟩)
  refine fn_bodyF (K := K) (X := E) (S := (aCons (rUn (rDt K) (rUn (rLs (rNum CN)) (rTup K (rUn (rDt K) (rNum CN))))) aNil)) (E' := eNil) (R := rBl) (st_par (st_un st_nil)) rfl (s_seq (s_if (st_safe (t_or (t_not (t_b (e_ca (cas_un (c_isiDt (u := "tuple")) (cas_un (c_isiT (b := false) tr_ls (kit_ty (by decide +kernel))) (c_isiT (b := true) tr_tup (kit_ty (by decide +kernel))))) (a_cons (e_var get0) (a_cons e_tyV a_nil))))) (t_not (t_b (e_ca c_all (a_cons (SN.se (n_lc (i_tup (e_the (f := rgtS) un_getR (e_the (f := rgtS) un_getR (e_var get0)))) (gw_name pu1) t_yes (e_ca (cas_un (c_isiDtC ON) (c_isi (tr_num TN) (.own CN) TN.iNN fun h => h)) (a_cons (e_var gt1) (a_cons e_clsV a_nil))))) a_nil)))))) (s_raiseN (fl := flE) X_InvalidNumber.gl (by decide +kernel) (fun _ => rfl)) (ss_safe s_nil))
  (ss_safe (s_ret (e_never (Ra := rBl))))) ?_
  exact h
end
end PF2
set_option maxHeartbeats 400000
namespace PF
open PySem PySem.Spec PyProof.Rows L2 SlX
namespace M
section
variable {α : Type} {c : Nat} {Q : α → Nat → Prop} {X : Er → Prop}
theorem safe_W {m : M α} : W (M.safe m) c Q X = W m c Q (fun _ => False) := id rfl
theorem raise_W {e : Er} : W (M.raise e : M α) c Q X = X e := id rfl
theorem tryM_W {m : M α} {h : Er → M α} : W (M.tryM m h) c Q X = W m c Q (fun e => W (h e) c Q X) := id rfl
theorem byE_W {ys ns : List Str} {m : M α} {n : Er → M α} {e : Er} : W (M.byE ys ns m n e) c Q X = ((e.cls ∈ ys ∧ W m c Q X) ∨ (e.cls ∈ ns ∧ W (n e) c Q X)) := id rfl
end
end M
end PF
set_option maxHeartbeats 1000000
namespace PySem.W
open PySem PySem.Calls PyProof.Rows PyProof.V PySem.Spec
end PySem.W
namespace PF
open PySem PySem.Spec PyProof.Rows L2 SlX
theorem AllD.at2 {κ α : Type} {kf : κ → L2.Key} {f : V → α → Prop} {kvs : List (L2.Key × V)} {l : List (κ × α)} (h : AllD kf f kvs l) {i : Nat} {k : L2.Key} {v : V} (e : kvs[i]? = some (k, v)) : ∃ k' a, l[i]? = some (k', a) ∧ k = kf k' ∧ f v a := by
  induction h generalizing i with
  | nil => simp at e
  | @cons v2 k2 a2 _ _ h _ ih => cases i with
    | zero =>
      simp at e
      obtain ⟨rfl, rfl⟩ := e
      exact ⟨k2, a2, rfl, rfl, h⟩
    | succ i => simpa using ih (by simpa using e)
end PF
namespace GQ
open PySem PySem.SeqAt
open AutoSeq1 (wpAny_loadPart')
open MeetsSeq MeetsSeq2 MeetsSeq3 SeqRoads2
end GQ
namespace PF
open PySem PySem.Spec PyProof.Rows L2 SlX
def rIsB : R2 := fun x y H Q => ∃ a b, x = .bl a ∧ y = .bl b ∧ Q (.bl (decide (a = b))) H
theorem op_isB {X : Cx} : OpR X (compareOp .Is) rIsB := by
  intro pins s σ H x y v u Q I rx ry h
  obtain ⟨a, b, rfl, rfl, q⟩ := h
  obtain rfl : v = .bool a := rx
  obtain rfl : u = .bool b := ry
  refine wpAny_of_eq (a := Value.bool (decide (a = b))) ?_ (fin_bl I q rfl)
  cases a <;> cases b <;> first | rfl | kernel_rfl
section
variable {μ : Md}
theorem o_isB : OpS μ rIsB rBl rBl rBl fun a b => .ret (decide (a = b)) := fun k F H c x y a b Q w hx hy q => ⟨a, b, hx, hy, q _ F H (ExtX.refl w.sub) w rfl⟩
end
end PF
set_option maxHeartbeats 4000000
namespace PF2
open PF PySem PySem.Spec PyProof.Rows L2 SlX
section
variable {P : Program} {w : World} {K : PySem.W.Frag} {mg : Str → Option Value} {base : Heap} {f CO CN CF CE : Addr} {fd : FuncData}
theorem sc__law_made : FnScope ["_law_parts"] ["_law_parts"] (defScope (topS 35)) := ⟨rfl, rfl, rfl, by decide +kernel, rfl, by decide +kernel, by decide +kernel⟩
noncomputable def b__law_made (ρ : ((Int × (Int × (Int × (Int × Unit)))) × Unit)) : M (Ct Unit Unit Nm) := (M.bind (M.bind (M.bind (M.ret ρ.1) fun x1 => M.ret x1.1) fun x5 => M.bind (M.bind (M.ret ρ.1) fun x2 => M.ret x2.2.1) fun x6 => M.bind (M.bind (M.ret ρ.1) fun x3 => M.ret x3.2.2.1) fun x7 => M.bind (M.bind (M.ret ρ.1) fun x4 => M.ret x4.2.2.2.1) fun x8 => M.need (x8 ≠ 0 ∧ okRoot x7 x6 ∧ Bd 9000 x8) (M.ret (mkNm x5 x6 x7 x8))) fun x9 => M.ret (.rt x9))
noncomputable def m__law_made (a : ((Int × (Int × (Int × (Int × Unit)))) × Unit)) : M Nm := M.fin (b__law_made (a.1, ()))
theorem ok__law_made (F : Fun K "_law_made" "_law_made" (topS 35) f fd) (G_NumberK : GMK P w K mg base "Number" CN 6 2 ["root", "bottom"] (spNumI CN CF)) : FnOk P w K mg base CX0 8 f fd ["_law_parts"] (spOf (aCons (rTx K (aCons rInt (aCons rInt (aCons rInt (aCons rInt aNil))))) aNil) (rNum CN) m__law_made) := by
  refine F.ok sc__law_made (fun vs H Q E h => spOf_len h) (fun cdv A outer s H vs Q E hr h => ⟨_, (pss_one (ps_ret (pe_mk G_NumberK (hr.mono (by decide)) (pa_cons (pe_ix (ix_tup : IxR _ (rIxT K)) (pv 0) pe_int (fun _ _ => rfl)) (pa_cons (pe_ix (ix_tup : IxR _ (rIxT K)) (pv 0) pe_int (fun _ _ => rfl)) pa_nil)) (pk_cons (pe_ix (ix_tup : IxR _ (rIxT K)) (pv 0) pe_int (fun _ _ => rfl)) (pk_cons (pe_ix (ix_tup : IxR _ (rIxT K)) (pv 0) pe_int (fun _ _ => rfl)) pk_nil))))), ?_⟩)
  refine fn_body (X := E) (S := (aCons (rTx K (aCons rInt (aCons rInt (aCons rInt (aCons rInt aNil))))) aNil)) (E' := eNil) (R := (rNum CN)) (st_par st_nil) rfl (s_ret (e_mkNum4 (e_ixX (i := 0) rget0 (e_var get0)) (e_ixX (i := 1) (rgetS rget0) (e_var get0)) (e_ixX (i := 2) (rgetS (rgetS rget0)) (e_var get0)) (e_ixX (i := 3) (rgetS (rgetS (rgetS rget0))) (e_var get0)))) ?_
  exact h
theorem sc__law_word : FnScope ["_law_call"] ["_law_call"] (defScope (topS 36)) := ⟨rfl, rfl, rfl, by decide +kernel, rfl, by decide +kernel, by decide +kernel⟩
noncomputable def b__law_word (th : M Unit) (ρ : Unit) : M (Ct Unit Unit Str) := (fun ρ => (M.thn (M.tryM (M.bind (M.still ρ.1) fun x10 => M.ret (.nx ρ)) (fun e => M.byE [("InvalidNumber" : Str)] [("InvalidOperation" : Str)] (M.bind (M.ret ("number" : Str)) fun x11 => M.ret (.rt x11)) (fun e => M.byE [("InvalidOperation" : Str)] [] (M.bind (M.ret ("operation" : Str)) fun x12 => M.ret (.rt x12)) (fun _ => M.none) e) e)) fun ρ => (M.bind (M.ret ("fine" : Str)) fun x13 => M.ret (.rt x13)))) (th, ρ)
noncomputable def m__law_word (th : M Unit) : M Str := M.fin (b__law_word th ())
theorem gv__law_word {A : Around} {stack : List Env} {q1 : Str} {A_InvalidNumber A_InvalidOperation : Addr} (X_InvalidNumber : GX K mg "InvalidNumber" A_InvalidNumber) (E_InvalidNumber_InvalidNumber : PySem.W.exmOne K (.ref A_InvalidNumber) (.ref A_InvalidNumber) = some true) (X_InvalidOperation : GX K mg "InvalidOperation" A_InvalidOperation) (E_InvalidOperation_InvalidNumber : PySem.W.exmOne K (.ref A_InvalidOperation) (.ref A_InvalidNumber) = some false) (E_InvalidOperation_InvalidOperation : PySem.W.exmOne K (.ref A_InvalidOperation) (.ref A_InvalidOperation) = some true) (hgd : A.guards = some []) : ∀ g cdv, Gives P w K mg base A stack ["_law_call"] "_law_word" (defScope (topS 36)) g cdv (defBody (topS 36)) "_law_call" q1 (TTw K mg flE q1 rStr m__law_word) := by
  intro g cdv f1 c1 s H Q tl1 act hr hcode ht
  refine ⟨_, (pss_cons (ps_try_many rfl rfl takes0 (fun W pn xe tk _ => (pss_one (ps_expr (act W pn xe _ _ tk)))) (HdsOk.cons ⟨rfl, by decide, .inl X_InvalidNumber.gl⟩ (fun a oe cls d pn _ _ => (pss_one (ps_ret pe_str))) (HdsOk.cons ⟨rfl, by decide, .inl X_InvalidOperation.gl⟩ (fun a oe cls d pn _ _ => (pss_one (ps_ret pe_str))) HdsOk.nil)))
  (pss_one (ps_ret pe_str))), ?_⟩
  exact fn_bodyL (f := f1) (c' := c1) (q := q1) (tl := tl1) (E' := eNil) (R := rStr) st_nil rfl (s_seq (s_tryF (sb_dropF (set_thunk get0)) (sh_consF (ys := [("InvalidNumber" : Str)]) (ns := [("InvalidOperation" : Str)]) (.cons X_InvalidNumber.gl E_InvalidNumber_InvalidNumber .nil) (.cons X_InvalidOperation.gl E_InvalidOperation_InvalidNumber .nil) (s_ret e_str) (sh_consF (ys := [("InvalidOperation" : Str)]) (ns := []) (.cons X_InvalidOperation.gl E_InvalidOperation_InvalidOperation .nil) .nil (s_ret e_str) sh_nilF)))
  (s_ret e_str)) ht
theorem sc__law_wrong : FnScope ["_law_way", "_law_odd", "_law_root"] ["_law_way", "_law_odd", "_law_root"] (defScope (topS 37)) := ⟨rfl, rfl, rfl, by decide +kernel, rfl, by decide +kernel, by decide +kernel⟩
noncomputable def b__law_wrong_X (ρ : (Int × ((Sum PyData Nm) × ((Sum PyData Nm) × Unit)))) : M (Ct Unit Unit Unit) := (M.thn (M.bind (M.safe (M.bind (M.ret ρ.1) fun x14 => M.bind (M.ret (0 : Int)) fun x15 => M.ret (decide (x14 = x15)))) fun x21 => M.ifb x21 (M.bind (M.bind (M.bind (M.safe (M.bind (M.ret ρ.2.1) fun x17 => M.bind (M.ret ()) fun x18 => M.ret (x17, x18))) fun r16 => M.bind (M.still (m_Number___init___X ((), jN1 r16))) fun _ => M.none) fun (x19 : Nm) => M.ret ()) fun x20 => M.ret (.rt x20)) (M.safe (M.ret (.nx ρ)))) fun ρ => (M.thn (M.bind (M.safe (M.bind (M.ret ρ.1) fun x22 => M.bind (M.ret (1 : Int)) fun x23 => M.ret (decide (x22 = x23)))) fun x38 => M.ifb x38 (M.bind (M.bind (M.bind (M.safe (M.bind (M.bind (M.bind (M.ret (1 : Int)) fun x25 => M.ret (PyData.int x25)) fun x26 => M.ret (Sum.inl x26 : (Sum PyData Nm))) fun x29 => M.bind (M.bind (M.ret ρ.2.1) fun x27 => M.bind (M.ret ()) fun x28 => M.ret (x27, x28)) fun x30 => M.ret (x29, x30))) fun r24 => M.bind (M.safe (M.bind (M.bind (M.bind (M.ret (2 : Int)) fun x31 => M.ret (PyData.int x31)) fun x32 => M.ret (Sum.inl x32 : (Sum PyData Nm))) fun x33 => M.bind (M.ret ()) fun x34 => M.ret (x33, x34))) fun r35 => M.bind (M.still (m_Number___init___X ((), jNR r24 r35))) fun _ => M.none) fun (x36 : Nm) => M.ret ()) fun x37 => M.ret (.rt x37)) (M.safe (M.ret (.nx ρ)))) fun ρ => (M.thn (M.bind (M.safe (M.bind (M.ret ρ.1) fun x39 => M.bind (M.ret (2 : Int)) fun x40 => M.ret (decide (x39 = x40)))) fun x51 => M.ifb x51 (M.bind (M.bind (M.bind (M.safe (M.bind (M.bind (M.bind (M.ret (1 : Int)) fun x42 => M.ret (PyData.int x42)) fun x43 => M.ret (Sum.inl x43 : (Sum PyData Nm))) fun x44 => M.bind (M.ret ()) fun x45 => M.ret (x44, x45))) fun r41 => M.bind (M.safe (M.bind (M.ret ρ.2.1) fun x46 => M.bind (M.ret ()) fun x47 => M.ret (x46, x47))) fun r48 => M.bind (M.still (m_Number___init___X ((), jNB r41 r48))) fun _ => M.none) fun (x49 : Nm) => M.ret ()) fun x50 => M.ret (.rt x50)) (M.safe (M.ret (.nx ρ)))) fun ρ => (M.thn (M.bind (M.safe (M.bind (M.ret ρ.1) fun x52 => M.bind (M.ret (3 : Int)) fun x53 => M.ret (decide (x52 = x53)))) fun x66 => M.ifb x66 (M.bind (M.bind (M.bind (M.safe (M.bind (M.bind (M.bind (M.ret (1 : Int)) fun x55 => M.ret (PyData.int x55)) fun x56 => M.ret (Sum.inl x56 : (Sum PyData Nm))) fun x57 => M.bind (M.ret ()) fun x58 => M.ret (x57, x58))) fun r54 => M.bind (M.safe (M.bind (M.bind (M.bind (M.ret (0 : Int)) fun x59 => M.ret (PyData.int x59)) fun x60 => M.ret (Sum.inl x60 : (Sum PyData Nm))) fun x61 => M.bind (M.ret ()) fun x62 => M.ret (x61, x62))) fun r63 => M.bind (M.still (m_Number___init___X ((), jNB r54 r63))) fun _ => M.none) fun (x64 : Nm) => M.ret ()) fun x65 => M.ret (.rt x65)) (M.safe (M.ret (.nx ρ)))) fun ρ => (M.thn (M.bind (M.safe (M.bind (M.ret ρ.1) fun x67 => M.bind (M.ret (4 : Int)) fun x68 => M.ret (decide (x67 = x68)))) fun x80 => M.ifb x80 (M.bind (M.bind (M.bind (M.safe (M.bind (M.bind (M.bind (M.ret (1 : Int)) fun x70 => M.ret (PyData.int x70)) fun x71 => M.ret (Sum.inl x71 : (Sum PyData Nm))) fun x76 => M.bind (M.bind (M.bind (M.bind (M.ret (1 : Int)) fun x72 => M.ret (PyData.int x72)) fun x73 => M.ret (Sum.inl x73 : (Sum PyData Nm))) fun x74 => M.bind (M.ret ()) fun x75 => M.ret (x74, x75)) fun x77 => M.ret (x76, x77))) fun r69 => M.bind (M.still (m_Number___init___X ((), jN2 r69))) fun _ => M.none) fun (x78 : Nm) => M.ret ()) fun x79 => M.ret (.rt x79)) (M.safe (M.ret (.nx ρ)))) fun ρ => (M.thn (M.bind (M.safe (M.bind (M.ret ρ.1) fun x81 => M.bind (M.ret (5 : Int)) fun x82 => M.ret (decide (x81 = x82)))) fun x97 => M.ifb x97 (M.bind (M.bind (M.bind (M.safe (M.bind (M.bind (M.bind (M.ret (1 : Int)) fun x84 => M.ret (PyData.int x84)) fun x85 => M.ret (Sum.inl x85 : (Sum PyData Nm))) fun x90 => M.bind (M.bind (M.bind (M.bind (M.ret (0 : Int)) fun x86 => M.ret (PyData.int x86)) fun x87 => M.ret (Sum.inl x87 : (Sum PyData Nm))) fun x88 => M.bind (M.ret ()) fun x89 => M.ret (x88, x89)) fun x91 => M.ret (x90, x91))) fun r83 => M.bind (M.safe (M.bind (M.ret ρ.2.2.1) fun x92 => M.bind (M.ret ()) fun x93 => M.ret (x92, x93))) fun r94 => M.bind (M.still (m_Number___init___X ((), jNR r83 r94))) fun _ => M.none) fun (x95 : Nm) => M.ret ()) fun x96 => M.ret (.rt x96)) (M.safe (M.ret (.nx ρ)))) fun ρ => (M.thn (M.bind (M.safe (M.bind (M.ret ρ.1) fun x98 => M.bind (M.ret (6 : Int)) fun x99 => M.ret (decide (x98 = x99)))) fun x114 => M.ifb x114 (M.bind (M.bind (M.bind (M.safe (M.bind (M.bind (M.bind (M.ret (2 : Int)) fun x101 => M.ret (PyData.int x101)) fun x102 => M.ret (Sum.inl x102 : (Sum PyData Nm))) fun x107 => M.bind (M.bind (M.bind (M.bind (M.ret (3 : Int)) fun x103 => M.ret (PyData.int x103)) fun x104 => M.ret (Sum.inl x104 : (Sum PyData Nm))) fun x105 => M.bind (M.ret ()) fun x106 => M.ret (x105, x106)) fun x108 => M.ret (x107, x108))) fun r100 => M.bind (M.safe (M.bind (M.ret ρ.2.2.1) fun x109 => M.bind (M.ret ()) fun x110 => M.ret (x109, x110))) fun r111 => M.bind (M.still (m_Number___init___X ((), jNR r100 r111))) fun _ => M.none) fun (x112 : Nm) => M.ret ()) fun x113 => M.ret (.rt x113)) (M.safe (M.ret (.nx ρ)))) fun ρ => (M.bind (M.bind (M.bind (M.safe (M.bind (M.ret ρ.2.1) fun x118 => M.bind (M.bind (M.ret ρ.2.1) fun x116 => M.bind (M.ret ()) fun x117 => M.ret (x116, x117)) fun x119 => M.ret (x118, x119))) fun r115 => M.bind (M.safe (M.bind (M.ret ρ.2.2.1) fun x124 => M.bind (M.bind (M.bind (M.bind (M.ret (0 : Int)) fun x120 => M.ret (PyData.int x120)) fun x121 => M.ret (Sum.inl x121 : (Sum PyData Nm))) fun x122 => M.bind (M.ret ()) fun x123 => M.ret (x122, x123)) fun x125 => M.ret (x124, x125))) fun r126 => M.bind (M.still (m_Number___init___X ((), jNK r115 r126))) fun _ => M.none) fun (x127 : Nm) => M.ret ()) fun x128 => M.ret (.rt x128)))))))))
noncomputable def m__law_wrong_X (a : (Int × ((Sum PyData Nm) × ((Sum PyData Nm) × Unit)))) : M Unit := M.fin (b__law_wrong_X (a.1, (a.2.1, (a.2.2.1, ()))))
theorem ok__law_wrong_X (F : Fun K "_law_wrong" "_law_wrong" (topS 37) f fd) (GX_Number1 : GMX P w K mg base "Number" CN 5 [.int 0, .int 0, .int 1] (spOfF K mg flE (aCons rAny (aCons (rUn (rDt K) (rNum CN)) (aCons (rUn (rDt K) (rNum CN)) (aCons (rUn (rDt K) (rNum CN)) (aCons (rUn (rDt K) (rNum CN)) aNil))))) rNon m_Number___init___X)) (GX_NumberR : GMKX P w K mg base "Number" CN 5 2 ["root"] (fun vs zs => vs ++ zs ++ [V.int 1]) (spOfF K mg flE (aCons rAny (aCons (rUn (rDt K) (rNum CN)) (aCons (rUn (rDt K) (rNum CN)) (aCons (rUn (rDt K) (rNum CN)) (aCons (rUn (rDt K) (rNum CN)) aNil))))) rNon m_Number___init___X)) (GX_NumberB : GMKX P w K mg base "Number" CN 5 1 ["bottom"] (fun vs zs => vs ++ [V.int 0] ++ [V.int 0] ++ zs) (spOfF K mg flE (aCons rAny (aCons (rUn (rDt K) (rNum CN)) (aCons (rUn (rDt K) (rNum CN)) (aCons (rUn (rDt K) (rNum CN)) (aCons (rUn (rDt K) (rNum CN)) aNil))))) rNon m_Number___init___X)) (GX_Number2 : GMX P w K mg base "Number" CN 5 [.int 0, .int 1] (spOfF K mg flE (aCons rAny (aCons (rUn (rDt K) (rNum CN)) (aCons (rUn (rDt K) (rNum CN)) (aCons (rUn (rDt K) (rNum CN)) (aCons (rUn (rDt K) (rNum CN)) aNil))))) rNon m_Number___init___X)) (GX_NumberK : GMKX P w K mg base "Number" CN 5 2 ["root", "bottom"] (fun vs zs => vs ++ zs) (spOfF K mg flE (aCons rAny (aCons (rUn (rDt K) (rNum CN)) (aCons (rUn (rDt K) (rNum CN)) (aCons (rUn (rDt K) (rNum CN)) (aCons (rUn (rDt K) (rNum CN)) aNil))))) rNon m_Number___init___X)) : FnOk P w K mg base (L2.CX P w) 7 f fd ["_law_way", "_law_odd", "_law_root"] (spOfF K mg flE (aCons rInt (aCons (rUn (rDt K) (rNum CN)) (aCons (rUn (rDt K) (rNum CN)) aNil))) rAny m__law_wrong_X) := by
  refine F.okX sc__law_wrong (fun vs H Q E h => spOfF_len h) (fun cdv A outer s H vs Q E hr h => ⟨_, (pss_cons (ps_if (pt_cmpR op_eq (pv 0) pe_int (nomark _)) (pss_one (ps_ret (pe_mX (takes_of rfl rfl rfl rfl) GX_Number1 (hr.mono (by decide)) (pa_cons (pv 1) pa_nil)))) pss_nil)
  (pss_cons (ps_if (pt_cmpR op_eq (pv 0) pe_int (nomark _)) (pss_one (ps_ret (pe_mKX (takes_of rfl rfl rfl rfl) GX_NumberR (hr.mono (by decide)) (pa_cons pe_int (pa_cons (pv 1) pa_nil)) (pk_cons pe_int pk_nil)))) pss_nil)
  (pss_cons (ps_if (pt_cmpR op_eq (pv 0) pe_int (nomark _)) (pss_one (ps_ret (pe_mKX (takes_of rfl rfl rfl rfl) GX_NumberB (hr.mono (by decide)) (pa_cons pe_int pa_nil) (pk_cons (pv 1) pk_nil)))) pss_nil)
  (pss_cons (ps_if (pt_cmpR op_eq (pv 0) pe_int (nomark _)) (pss_one (ps_ret (pe_mKX (takes_of rfl rfl rfl rfl) GX_NumberB (hr.mono (by decide)) (pa_cons pe_int pa_nil) (pk_cons pe_int pk_nil)))) pss_nil)
  (pss_cons (ps_if (pt_cmpR op_eq (pv 0) pe_int (nomark _)) (pss_one (ps_ret (pe_mX (takes_of rfl rfl rfl rfl) GX_Number2 (hr.mono (by decide)) (pa_cons pe_int (pa_cons pe_int pa_nil))))) pss_nil)
  (pss_cons (ps_if (pt_cmpR op_eq (pv 0) pe_int (nomark _)) (pss_one (ps_ret (pe_mKX (takes_of rfl rfl rfl rfl) GX_NumberR (hr.mono (by decide)) (pa_cons pe_int (pa_cons pe_int pa_nil)) (pk_cons (pv 2) pk_nil)))) pss_nil)
  (pss_cons (ps_if (pt_cmpR op_eq (pv 0) pe_int (nomark _)) (pss_one (ps_ret (pe_mKX (takes_of rfl rfl rfl rfl) GX_NumberR (hr.mono (by decide)) (pa_cons pe_int (pa_cons pe_int pa_nil)) (pk_cons (pv 2) pk_nil)))) pss_nil)
  (pss_one (ps_ret (pe_mKX (takes_of rfl rfl rfl rfl) GX_NumberK (hr.mono (by decide)) (pa_cons (pv 1) (pa_cons (pv 1) pa_nil)) (pk_cons (pv 2) (pk_cons pe_int pk_nil)))))))))))), ?_⟩)
  refine fn_bodyF (K := K) (X := E) (S := (aCons rInt (aCons (rUn (rDt K) (rNum CN)) (aCons (rUn (rDt K) (rNum CN)) aNil)))) (E' := eNil) (R := rAny) (st_par (st_par (st_par st_nil))) rfl (s_seq (s_if (st_safe (t_of (e_op (o_eq sc_int) (e_var get0) e_int))) (s_ret (se_any (e_mkX (R := rNum CN) (j := jN1) (fun _ => rfl) (fun h => jn1 h) (sa_safe (a_cons (e_var gt1) a_nil))))) (ss_safe s_nil))
  (s_seq (s_if (st_safe (t_of (e_op (o_eq sc_int) (e_var get0) e_int))) (s_ret (se_any (e_mkNX (R := rNum CN) (gW := fun vs zs => vs ++ zs ++ [V.int 1]) (j := jNR) (fun _ => rfl) (fun _ _ _ => rfl) (fun h k => jnR h k) rfl rfl (sa_safe (a_cons (e_coeX (Rb := (rUn (rDt K) (rNum CN))) coe_l (e_dat dp_int e_int)) (a_cons (e_var gt1) a_nil))) (sa_safe (a_cons (e_coeX (Rb := (rUn (rDt K) (rNum CN))) coe_l (e_dat dp_int e_int)) a_nil))))) (ss_safe s_nil))
  (s_seq (s_if (st_safe (t_of (e_op (o_eq sc_int) (e_var get0) e_int))) (s_ret (se_any (e_mkNX (R := rNum CN) (gW := fun vs zs => vs ++ [V.int 0] ++ [V.int 0] ++ zs) (j := jNB) (fun _ => rfl) (fun _ _ _ => rfl) (fun h k => jnB h k) rfl rfl (sa_safe (a_cons (e_coeX (Rb := (rUn (rDt K) (rNum CN))) coe_l (e_dat dp_int e_int)) a_nil)) (sa_safe (a_cons (e_var gt1) a_nil))))) (ss_safe s_nil))
  (s_seq (s_if (st_safe (t_of (e_op (o_eq sc_int) (e_var get0) e_int))) (s_ret (se_any (e_mkNX (R := rNum CN) (gW := fun vs zs => vs ++ [V.int 0] ++ [V.int 0] ++ zs) (j := jNB) (fun _ => rfl) (fun _ _ _ => rfl) (fun h k => jnB h k) rfl rfl (sa_safe (a_cons (e_coeX (Rb := (rUn (rDt K) (rNum CN))) coe_l (e_dat dp_int e_int)) a_nil)) (sa_safe (a_cons (e_coeX (Rb := (rUn (rDt K) (rNum CN))) coe_l (e_dat dp_int e_int)) a_nil))))) (ss_safe s_nil))
  (s_seq (s_if (st_safe (t_of (e_op (o_eq sc_int) (e_var get0) e_int))) (s_ret (se_any (e_mkX (R := rNum CN) (j := jN2) (fun _ => rfl) (fun h => jn2 h) (sa_safe (a_cons (e_coeX (Rb := (rUn (rDt K) (rNum CN))) coe_l (e_dat dp_int e_int)) (a_cons (e_coeX (Rb := (rUn (rDt K) (rNum CN))) coe_l (e_dat dp_int e_int)) a_nil)))))) (ss_safe s_nil))
  (s_seq (s_if (st_safe (t_of (e_op (o_eq sc_int) (e_var get0) e_int))) (s_ret (se_any (e_mkNX (R := rNum CN) (gW := fun vs zs => vs ++ zs ++ [V.int 1]) (j := jNR) (fun _ => rfl) (fun _ _ _ => rfl) (fun h k => jnR h k) rfl rfl (sa_safe (a_cons (e_coeX (Rb := (rUn (rDt K) (rNum CN))) coe_l (e_dat dp_int e_int)) (a_cons (e_coeX (Rb := (rUn (rDt K) (rNum CN))) coe_l (e_dat dp_int e_int)) a_nil))) (sa_safe (a_cons (e_var gt2) a_nil))))) (ss_safe s_nil))
  (s_seq (s_if (st_safe (t_of (e_op (o_eq sc_int) (e_var get0) e_int))) (s_ret (se_any (e_mkNX (R := rNum CN) (gW := fun vs zs => vs ++ zs ++ [V.int 1]) (j := jNR) (fun _ => rfl) (fun _ _ _ => rfl) (fun h k => jnR h k) rfl rfl (sa_safe (a_cons (e_coeX (Rb := (rUn (rDt K) (rNum CN))) coe_l (e_dat dp_int e_int)) (a_cons (e_coeX (Rb := (rUn (rDt K) (rNum CN))) coe_l (e_dat dp_int e_int)) a_nil))) (sa_safe (a_cons (e_var gt2) a_nil))))) (ss_safe s_nil))
  (s_ret (se_any (e_mkNX (R := rNum CN) (gW := fun vs zs => vs ++ zs) (j := jNK) (fun _ => rfl) (fun _ _ _ => rfl) (fun h k => jnK h k) rfl rfl (sa_safe (a_cons (e_var gt1) (a_cons (e_var gt1) a_nil))) (sa_safe (a_cons (e_var gt2) (a_cons (e_coeX (Rb := (rUn (rDt K) (rNum CN))) coe_l (e_dat dp_int e_int)) a_nil))))))))))))) ?_
  exact h
theorem sc__law_used : FnScope ["_law_way", "_law_one", "_law_other"] ["_law_way", "_law_one", "_law_other"] (defScope (topS 39)) := ⟨rfl, rfl, rfl, by decide +kernel, rfl, by decide +kernel, by decide +kernel⟩
noncomputable def b__law_used_X (ρ : (Int × (Nm × ((Sum PyData Nm) × Unit)))) : M (Ct Unit Unit Unit) := (M.thn (M.bind (M.safe (M.bind (M.ret ρ.1) fun x129 => M.bind (M.ret (0 : Int)) fun x130 => M.ret (decide (x129 = x130)))) fun x137 => M.ifb x137 (M.bind (M.bind (M.bind (M.safe (M.ret ρ.2.1)) fun x133 => M.bind (M.safe (M.bind (M.ret ρ.2.2.1) fun x132 => M.the (rgtS x132))) fun x134 => M.still (m_Number___add___X (x133, x134, ()))) fun x135 => M.ret ()) fun x136 => M.ret (.rt x136)) (M.safe (M.ret (.nx ρ)))) fun ρ => (M.thn (M.bind (M.safe (M.bind (M.ret ρ.1) fun x138 => M.bind (M.ret (1 : Int)) fun x139 => M.ret (decide (x138 = x139)))) fun x146 => M.ifb x146 (M.bind (M.bind (M.bind (M.safe (M.ret ρ.2.1)) fun x142 => M.bind (M.safe (M.bind (M.ret ρ.2.2.1) fun x141 => M.the (rgtS x141))) fun x143 => M.still (m_Number___sub___X (x142, x143, ()))) fun x144 => M.ret ()) fun x145 => M.ret (.rt x145)) (M.safe (M.ret (.nx ρ)))) fun ρ => (M.thn (M.bind (M.safe (M.bind (M.ret ρ.1) fun x147 => M.bind (M.ret (2 : Int)) fun x148 => M.ret (decide (x147 = x148)))) fun x155 => M.ifb x155 (M.bind (M.bind (M.bind (M.safe (M.ret ρ.2.1)) fun x151 => M.bind (M.safe (M.bind (M.ret ρ.2.2.1) fun x150 => M.the (rgtS x150))) fun x152 => M.still (m_Number___mul___X (x151, x152, ()))) fun x153 => M.ret ()) fun x154 => M.ret (.rt x154)) (M.safe (M.ret (.nx ρ)))) fun ρ => (M.bind (M.bind (M.safe (M.bind (M.ret ρ.1) fun x156 => M.bind (M.ret (3 : Int)) fun x157 => M.ret (decide (x156 = x157)))) fun x168 => M.ifb x168 (M.bind (M.bind (M.safe (M.ret ρ.2.1)) fun x161 => M.bind (M.safe (M.bind (M.ret ρ.2.2.1) fun x159 => M.bind (M.ret ()) fun x160 => M.ret (x159, x160))) fun r158 => M.still (m_Number_over_X (x161, r158))) fun x166 => M.ret ()) (M.bind (M.bind (M.safe (M.ret ρ.2.1)) fun x165 => M.bind (M.safe (M.bind (M.ret ρ.2.2.1) fun x163 => M.bind (M.ret ()) fun x164 => M.ret (x163, x164))) fun r162 => M.still (m_Number_compared_X (x165, r162))) fun x167 => M.ret ())) fun x169 => M.ret (.rt x169)))))
noncomputable def m__law_used_X (a : (Int × (Nm × ((Sum PyData Nm) × Unit)))) : M Unit := M.fin (b__law_used_X (a.1, (a.2.1, (a.2.2.1, ()))))
theorem ok__law_used_X (F : Fun K "_law_used" "_law_used" (topS 39) f fd) (GBX_Add : GBX P w K mg base CN .Add 9 (spOfF K mg flE (aCons (rNum CN) (aCons (rNum CN) aNil)) (rNum CN) m_Number___add___X)) (GBX_Sub : GBX P w K mg base CN .Sub 9 (spOfF K mg flE (aCons (rNum CN) (aCons (rNum CN) aNil)) (rNum CN) m_Number___sub___X)) (GBX_Mult : GBX P w K mg base CN .Mult 9 (spOfF K mg flE (aCons (rNum CN) (aCons (rNum CN) aNil)) (rNum CN) m_Number___mul___X)) (TN : NTxt K mg CN CF) (GMX_over : GMeX P w K mg base CN "over" 10 (spOfF K mg flE (aCons (rNum CN) (aCons (rUn (rDt K) (rNum CN)) aNil)) (rNum CN) m_Number_over_X)) (GMX_compared : GMeX P w K mg base CN "compared" 10 (spOfF K mg flE (aCons (rNum CN) (aCons (rUn (rDt K) (rNum CN)) aNil)) rInt m_Number_compared_X)) : FnOk P w K mg base (L2.CX P w) 11 f fd ["_law_way", "_law_one", "_law_other"] (spOfF K mg flE (aCons rInt (aCons (rNum CN) (aCons (rUn (rDt K) (rNum CN)) aNil))) rAny m__law_used_X) := by
  refine F.okX sc__law_used (fun vs H Q E h => spOfF_len h) (fun cdv A outer s H vs Q E hr h => ⟨_, (pss_cons (ps_if (pt_cmpR op_eq (pv 0) pe_int (nomark _)) (pss_one (ps_ret (pe_bX (takes_of rfl rfl rfl rfl) GBX_Add (hr.mono (by decide)) (pv 1) (pv 2)))) pss_nil)
  (pss_cons (ps_if (pt_cmpR op_eq (pv 0) pe_int (nomark _)) (pss_one (ps_ret (pe_bX (takes_of rfl rfl rfl rfl) GBX_Sub (hr.mono (by decide)) (pv 1) (pv 2)))) pss_nil)
  (pss_cons (ps_if (pt_cmpR op_eq (pv 0) pe_int (nomark _)) (pss_one (ps_ret (pe_bX (takes_of rfl rfl rfl rfl) GBX_Mult (hr.mono (by decide)) (pv 1) (pv 2)))) pss_nil)
  (pss_one (ps_ret (pe_ifExp (pt_cmpR op_eq (pv 0) pe_int (nomark _)) (pe_meX (takes_of rfl rfl rfl rfl) TN.cN GMX_over (hr.mono (by decide)) (pv 1) (pa_cons (pv 2) pa_nil)) (pe_meX (takes_of rfl rfl rfl rfl) TN.cN GMX_compared (hr.mono (by decide)) (pv 1) (pa_cons (pv 2) pa_nil)))))))), ?_⟩)
  refine fn_bodyF (K := K) (X := E) (S := (aCons rInt (aCons (rNum CN) (aCons (rUn (rDt K) (rNum CN)) aNil)))) (E' := eNil) (R := rAny) (st_par (st_par (st_par st_nil))) rfl (s_seq (s_if (st_safe (t_of (e_op (o_eq sc_int) (e_var get0) e_int))) (s_ret (se_any (e_binX sl_num sl_num (fun _ => rfl) (se_safe (e_var gt1)) (se_safe (e_the (f := rgtS) un_getR (e_var gt2)))))) (ss_safe s_nil))
  (s_seq (s_if (st_safe (t_of (e_op (o_eq sc_int) (e_var get0) e_int))) (s_ret (se_any (e_binX sl_num sl_num (fun _ => rfl) (se_safe (e_var gt1)) (se_safe (e_the (f := rgtS) un_getR (e_var gt2)))))) (ss_safe s_nil))
  (s_seq (s_if (st_safe (t_of (e_op (o_eq sc_int) (e_var get0) e_int))) (s_ret (se_any (e_binX sl_num sl_num (fun _ => rfl) (se_safe (e_var gt1)) (se_safe (e_the (f := rgtS) un_getR (e_var gt2)))))) (ss_safe s_nil))
  (s_ret (e_if (st_safe (t_of (e_op (o_eq sc_int) (e_var get0) e_int))) (se_any (e_meX sl_num (fun _ => rfl) (se_safe (e_var gt1)) (sa_safe (a_cons (e_var gt2) a_nil)))) (se_any (e_meX sl_num (fun _ => rfl) (se_safe (e_var gt1)) (sa_safe (a_cons (e_var gt2) a_nil))))))))) ?_
  exact h
end
end PF2
set_option maxHeartbeats 1000000
namespace PF
open PySem PySem.Spec PyProof.Rows L2 SlX
def noT (H : Hp) : Hp := fun b => match H b with
  | some (.tbl _) => none
  | o => o
theorem noT_at {H : Hp} {b : Addr} {o : HO} (h : H b = some o) (nt : ntB o = true) : noT H b = some o := by
  unfold noT
  rw [h]
  cases o <;> first | rfl | cases nt
theorem noT_sub {H : Hp} : Same (noT H) H := fun b o h => by
  unfold noT at h
  cases z : H b with
  | none => rw [z] at h; cases h
  | some u => rw [z] at h; cases u <;> first | exact h | cases h
def TbS (H : Hp) : Prop := TbA (noT H) H
theorem TbS.of {F H : Hp} (t : TbA F H) (s : Same F H) : TbS H := fun p hp => by
  obtain ⟨_, ps, h1, h2, h3⟩ := t p hp
  refine ⟨by unfold noT; rw [h1], ps, h1, h2, fun pos cv hc => ?_⟩
  obtain ⟨c, e, hc⟩ := h3 pos cv hc
  exact ⟨c, e, noT_at (s _ _ hc) rfl⟩
theorem TbS.go {H H' : Hp} (t : TbS H) (s : Same H H') : TbA (noT H) H' := fun p hp => (t p hp).go (t p hp).1 (fun o z => s p.1 o z) (Same.refl _)
theorem TbS.empty {H : Hp} (h : ∀ p ∈ tbN, H p.1 = some (.tbl #[])) : TbS H := fun p hp => ⟨by unfold noT; rw [h p hp], #[], h p hp, trivial, fun pos cv z => by cases z⟩
theorem noT_seq {K : PySem.W.Frag} {H : Hp} {a : Addr} {vs : List V} (h : SqL K H a vs) : SqL K (noT H) a vs := by
  rcases h with h | h
  · rcases h with h | ⟨o, h⟩
    · exact .inl (.inl (noT_at h rfl))
    · exact .inl (.inr ⟨o, noT_at h rfl⟩)
  · exact .inr h
def spCellsT (K : PySem.W.Frag) : Sp := fun vs H Q _ => ∃ (a : Addr) (ns : List Int), vs = [.ref a] ∧ SqL K H a (ns.map V.int) ∧ ns.length ≤ 100 ∧ (∀ p ∈ tbN, H p.1 = some (.tbl #[])) ∧ ∀ H', Q (.bl true) H'
def CellsT (K : PySem.W.Frag) (n : Nat) (ns : List Int) (σ : L2.St) (H : Hp) : Prop := (∃ a τ, σ = some (.ref a) :: τ ∧ τ.length = n ∧ SqL K H a (ns.map V.int)) ∧ TbS H
theorem unT_any0 {p : Option Addr} {H0 F H : Hp} {τ : L2.St} (t : TbA F H) (h : τ.length = 0) : eTab.r p H0 F H τ () := ⟨List.length_eq_zero_iff.mp h, t⟩
theorem unT_own0 (τ : L2.St) : eTab.owns τ = [] := rfl
theorem unT_len0 {p : Option Addr} {H0 F H : Hp} {τ : L2.St} {ρ : Unit} (h : eTab.r p H0 F H τ ρ) : τ.length = 0 ∧ TbA F H := by
  obtain ⟨h, t⟩ := h
  exact ⟨by rw [h]; rfl, t⟩
theorem unT_lenS {Γ : Type} {E : EV Γ} {n : Nat} (h : ∀ {p : Option Addr} {H0 F H : Hp} {τ : L2.St} {ρ : Γ}, E.r p H0 F H τ ρ → τ.length = n ∧ TbA F H) {p : Option Addr} {H0 F H : Hp} {τ : L2.St} {ρ : Unit × Γ} (r : (eCons sUn E).r p H0 F H τ ρ) : τ.length = n + 1 ∧ TbA F H := by
  obtain ⟨o, τ', rfl, _, r⟩ := r
  exact ⟨by rw [List.length_cons, (h r).1], (h r).2⟩
theorem walk_bodyT {K : PySem.W.Frag} {Γ Γ' Δ : Type} {E : EV Γ} {E' : EV Γ'} {El : EV Δ} {t : TS} {mb : (List Int × Unit × Unit × Γ) → M (Ct (List Int × Γ') Δ Bool)} {ρ0 : Γ} {n : Nat}
    (hb : SS md0 (eCons (sVal (rLst K rInt)) (eCons sUn (eCons sDice E))) (eCons (sVal (rLst K rInt)) E') El rBl t mb)
    (hE : ∀ {p H0 F H τ}, TbA F H → τ.length = n → E.r p H0 F H τ ρ0) (hO : ∀ τ, E.owns τ = []) (hL : ∀ {p H0 F H τ ρ}, E'.r p H0 F H τ ρ → τ.length = n + 2 ∧ TbA F H)
    {H : Hp} {D : Ends} {ns : List Int} {a p : Addr} {o1 : Option V} {τ : L2.St} (hτ : τ.length = n) (hS : SqL K H a (ns.map V.int)) (hd : Dice p H 0)
    {H1 : Hp} (h1 : H1 p = none) (hS1 : SqL K H1 a (ns.map V.int)) (e1 : Same H1 H) (hT : TbS H1)
    (hw : ∀ m, mb (ns, (), (), ρ0) = m → m.wp 0 (fun t _ => ∃ u, t = .nx (ns, u)) (fun _ => False)) (hD : ∀ σ' H', CellsT K (n + 2) ns σ' H' → D.nx σ' H') : t D (some (.ref a) :: o1 :: some (.ref p) :: τ) H := by
  have hp0 : H p ≠ none := by obtain ⟨_, _, _, z, _⟩ := hd; rw [z]; simp
  have sF : Same (noT H1) H := noT_sub.trans e1
  have np : noT H1 p = none := noT_sub.free h1
  refine hb ⟨some p, noT H1, H⟩ (noT H1) H _ (ns, (), (), ρ0) 0 D ⟨sF, ExtX.refl sF, fun q e => by cases e; exact ⟨np, hp0, hd⟩⟩ ⟨⟨_, _, rfl, ⟨_, rfl, a, _, rfl, noT_seq hS1, ints_all ns⟩, _, _, rfl, trivial, _, _, rfl, ⟨p, rfl, rfl⟩, hE (hT.go e1) hτ⟩, ?_⟩ ?_
  · show ([] ++ ([] ++ ([] ++ E.owns τ))).Nodup
    rw [hO]; exact List.nodup_nil
  · refine (mb (ns, (), (), ρ0)).mono 0 (fun t c z => ?_) (fun er z => z.elim) (hw _ rfl)
    obtain ⟨u, rfl⟩ := z
    intro F2 H2 σ2 _ w2 e2
    obtain ⟨o, τ2, rfl, ⟨v, rfl, a2, vs, rfl, sq, al⟩, r2⟩ := e2.r
    refine hD _ _ ⟨⟨a2, τ2, rfl, (hL r2).1, ?_⟩, .of (hL r2).2 w2.sub⟩
    rw [← ints_of al]
    exact w2.sub.seq sq
section
variable {κ β : Type} [DecidableEq κ]
inductive Gh (P : Addr → List β → Prop) : List (κ × Addr) → List (κ × List β) → Prop
  | nil : Gh P [] []
  | cons {k : κ} {a : Addr} {xs : List β} {as : List (κ × Addr)} {g : List (κ × List β)} (h : P a xs) (t : Gh P as g) : Gh P ((k, a) :: as) ((k, xs) :: g)
variable {P P' : Addr → List β → Prop} {as : List (κ × Addr)} {g : List (κ × List β)}
theorem Gh.imp (h : Gh P as g) (f : ∀ a xs, a ∈ as.map (·.2) → P a xs → P' a xs) : Gh P' as g := by
  induction h with
  | nil => exact .nil
  | cons h _ ih => exact .cons (f _ _ (List.mem_cons_self ..) h) (ih fun a xs m => f a xs (List.mem_cons_of_mem _ m))
theorem Gh.snoc (h : Gh P as g) {k : κ} {a : Addr} {xs : List β} (p : P a xs) : Gh P (as ++ [(k, a)]) (g ++ [(k, xs)]) := by
  induction h with
  | nil => exact .cons p .nil
  | cons h _ ih => exact .cons h ih
theorem Gh.any (h : Gh P as g) (k : κ) : (as.any fun p => decide (p.1 = k)) = (g.any fun p => decide (p.1 = k)) := by
  induction h with
  | nil => rfl
  | cons _ _ ih => rw [List.any_cons, List.any_cons, ih]
theorem Gh.repl (h : Gh P as g) {k : κ} {a : Addr} {xs : List β} (p : P a xs) : Gh P (as.map fun q => if q.1 = k then (q.1, a) else q) (g.map fun q => if q.1 = k then (q.1, xs) else q) := by
  induction h with
  | nil => exact .nil
  | @cons k2 b ys _ _ h _ ih =>
    rw [List.map_cons, List.map_cons]
    by_cases c : k2 = k
    · rw [if_pos c, if_pos c]; exact .cons p ih
    · rw [if_neg c, if_neg c]; exact .cons h ih
theorem Gh.dput (h : Gh P as g) {k : κ} {a : Addr} {xs : List β} (p : P a xs) : Gh P (PF.dput as k a) (PF.dput g k xs) := by
  unfold PF.dput
  rw [h.any k]
  split
  · exact h.repl p
  · exact h.snoc p
theorem Gh.get (h : Gh P as g) {k : κ} {xs : List β} (e : dget g k = some xs) : ∃ a, dget as k = some a ∧ P a xs ∧ a ∈ as.map (·.2) := by
  induction h with
  | nil => cases e
  | @cons k2 b ys as g h _ ih =>
    unfold PF.dget at e ⊢
    rw [List.find?_cons] at e ⊢
    by_cases c : k2 = k
    · simp only [c, decide_true] at e ⊢
      cases e
      exact ⟨b, rfl, h, List.mem_cons_self ..⟩
    · simp only [c, decide_false] at e ⊢
      obtain ⟨a, h1, h2, h3⟩ := ih e
      exact ⟨a, h1, h2, List.mem_cons_of_mem _ h3⟩
theorem Gh.upd (h : Gh P as g) (nk : (as.map (·.1)).Nodup) (na : (as.map (·.2)).Nodup) {k : κ} {a : Addr} {xs ys : List β} (e : dget g k = some xs) (ea : dget as k = some a) (p : P' a ys) (q : ∀ b zs, b ≠ a → b ∈ as.map (·.2) → P b zs → P' b zs) : Gh P' as (PF.dput g k ys) := by
  have any : (g.any fun p => decide (p.1 = k)) = true := by
    unfold PF.dget at e
    obtain ⟨r, hr, _⟩ := Option.map_eq_some_iff.mp e
    exact List.any_eq_true.mpr ⟨r, List.mem_of_find?_eq_some hr, by have z := List.find?_some hr; exact z⟩
  unfold PF.dput
  rw [if_pos any]
  clear any e
  induction h with
  | nil => cases ea
  | @cons k2 b zs as g h t ih =>
    obtain ⟨a1, a2⟩ := List.nodup_cons.mp nk
    obtain ⟨b1, b2⟩ := List.nodup_cons.mp na
    rw [List.map_cons]
    have fk : as.map (·.1) = g.map (·.1) := by
      clear ih nk na a1 a2 b1 b2 ea q
      induction t with
      | nil => rfl
      | cons _ _ ih => rw [List.map_cons, List.map_cons, ih]
    by_cases c : k2 = k
    · rw [if_pos c]
      have e2 : some b = some a := by
        rw [← ea]; unfold PF.dget; rw [List.find?_cons]; simp [c]
      cases e2
      have id : (g.map fun q => if q.1 = k then (q.1, ys) else q) = g := by
        conv => rhs; rw [← List.map_id g]
        refine List.map_congr_left fun r hr => ?_
        rw [if_neg]; rfl
        intro z
        have : r.1 ∈ g.map (·.1) := List.mem_map_of_mem (f := (·.1)) hr
        rw [← fk, z, ← c] at this
        exact a1 this
      rw [id]
      exact .cons p (t.imp fun b' zs m hp => q b' zs (fun z => b1 (by rw [← z]; exact m)) (List.mem_cons_of_mem _ m) hp)
    · rw [if_neg c]
      have ea' : PF.dget as k = some a := by
        rw [← ea]; unfold PF.dget; rw [List.find?_cons]; simp [c]
      have am : a ∈ as.map (·.2) := by
        unfold PF.dget at ea'
        obtain ⟨r, hr, er⟩ := Option.map_eq_some_iff.mp ea'
        rw [← er]
        exact List.mem_map_of_mem (f := (·.2)) (List.mem_of_find?_eq_some hr)
      refine .cons (q b zs (fun z => b1 (by rw [z]; exact am)) (List.mem_cons_self ..) h) (ih a2 b2 ea' fun b' zs n m hp => q b' zs n (List.mem_cons_of_mem _ m) hp)
end
section
variable {κ β : Type} [DecidableEq κ]
def GhP (Rb : Rp β) (p : Option Addr) (H0 F H : Hp) (a : Addr) (xs : List β) : Prop := ∃ vs, H a = some (.lst vs) ∧ All2 (Rb.r F) vs xs ∧ F a = none ∧ H0 a = none ∧ p ≠ some a
theorem GhP.step {Rb : Rp β} {p : Option Addr} {H0 F H F' H' : Hp} {a : Addr} {xs : List β} (x : ExtX p F H F' H') (h : GhP Rb p H0 F H a xs) : GhP Rb p H0 F' H' a xs := by
  obtain ⟨vs, h1, t, n1, n2, n3⟩ := h
  exact ⟨vs, x.hp a _ n3 h1, t.imp fun _ _ g => Rb.st x.fz g, (x.old a (some_ne h1)).trans n1, n2, n3⟩
structure Ghs {Γ Γ' : Type} (Rb : Rp β) (as : List (κ × Addr)) (E : EV Γ) (G : EV Γ') (f : Γ → List (κ × List β) → Γ') (st : Γ' → Γ) (gt : Γ' → List (κ × List β)) : Prop where
  mk' : ∀ {p : Option Addr} {H0 F H : Hp} {σ : L2.St} {ρ : Γ} {g : List (κ × List β)}, E.r p H0 F H σ ρ → Gh (GhP Rb p H0 F H) as g → G.r p H0 F H σ (f ρ g)
  st : ∀ {p : Option Addr} {H0 F H : Hp} {σ : L2.St} {ρ : Γ'}, G.r p H0 F H σ ρ → E.r p H0 F H σ (st ρ)
  gt : ∀ {p : Option Addr} {H0 F H : Hp} {σ : L2.St} {ρ : Γ'}, G.r p H0 F H σ ρ → Gh (GhP Rb p H0 F H) as (gt ρ)
  ow : ∀ {p : Option Addr} {H0 F H : Hp} {σ : L2.St} {ρ : Γ}, E.r p H0 F H σ ρ → G.owns σ = E.owns σ ++ as.map (·.2)
end
section
variable {Γ Γ' Γ'' Γ1 Δ α β γ : Type} {μ : Md} {E : EV Γ} {E' : EV Γ'} {El : EV Δ} {Ra : Rp α} {Rb : Rp β} {R : Rp γ} {K : PySem.W.Frag}
theorem fg_idG {Γ : Type} {E : EV Γ} : Fg E E id := ⟨id, fun _ => List.Sublist.refl _⟩
end
section
open PySem.W
theorem int_eq_declines_dict (b : Int) (u : Tok) (l : Addr) (c : Value) (es : Array DictEntry) (n : Nat) (dd : Option Addr) (sl : Array (Option Value)) :
    Meets (Builtin.«int.__eq__» ⟨[.int b u, .ref l], []⟩) (fun _ R s => s.heap.get? l = some { cls := c, dict := dd, data := .dict es n, slots := sl } ∧ R (.ok (.ret .notImplemented)) s) :=
  .of_wp fun prog w A R s h => by obtain ⟨hp, g, d, tk, os⟩ := s; obtain ⟨hl, h⟩ := h; wp_walk using wpAny_loadPart' hl, wpAny_load hl; exact ⟨_, rfl, h⟩
variable {prog : Program} {w : World} {κ : Type} [DecidableEq κ] {knd : KeyKind prog w κ} {A : Around} {E : Value → Shared → Prop} {s : Shared}
theorem rc_dict_int {d : Addr} {kvs : List (κ × Value)} (b : Int) (u : Tok) (hd : s.heap.DictOf knd d kvs) (hu : A.units < cLine) {Q : Value → Shared → Prop} (h : Q (.bool false) s) : wpAny (model prog w) A (compareOp .Eq (.ref d) (.int b u)) Q E s := by
  have ty := hd.typeIs
  obtain ⟨⟨cls, dd, data, sl⟩, es, ep, ho, hx, hdt, _⟩ := id hd
  simp only at hdt
  subst hdt
  show wpAny _ _ (richCompare .Eq (.ref d) (.int b u)) _ _ _
  refine PySem.SeqAt.rc_eq_decline_or (k := false) ty (typeIs_int s b u) (by decide) F.sub_int_dict F.slot_dict_eq F.slot_int_eq_refl
    (fun _ hq => wpAny_call_entry PySem.F.slot_dict_eq ty PySem.F.entry_dict_eq ?_ (PySem.F.args_dict_eq_2 _ _))
    (fun _ hq => call_meets F.slot_int_eq_refl (typeIs_int s b u) F.entry_int_eq (F.args_int_eq_2 _ _) (int_eq_declines_dict b u d cls es ep dd sl) ⟨ho, hq⟩)
    (fun _ hq => wpAny_of_eq (rfl : isSame (.ref d) (.int b u) = pure false) hq) (.inr hu) h
  show wpAny _ _ (Builtin.Dict.dictSlotArgs "__eq__" ⟨[.ref d, .int b u], []⟩ >>= _) _ _ s
  refine wpAny_bind ?_
  unfold Builtin.Dict.dictSlotArgs
  refine wpAny_bind (wpAny_notOrdered_dict ty ?_)
  show wpAny _ _ (pure (Value.ref d, Value.int b u)) _ _ s
  refine wpAny_pure ?_
  refine wpAny_bind (wpAny_isInstance (T := "int") (typeIs_int s b u) PySem.F.sub_int_dict ?_)
  simp only [Bool.not_false, if_true]
  exact wpAny_bind (wpAny_rule (wpAny_bind (wpAny_pure (wpAny_pure ⟨_, rfl, hq⟩))))
end
def rEq0 : R2 := fun x y H Q => ∃ p i, x = .ref p ∧ y = .int i ∧ H p = some (.dK []) ∧ Q (.bl false) H
theorem op_eq0 {X : Cx} (hr : Room 1 X.A) : OpR X (compareOp .Eq) rEq0 := by
  intro pins s σ H x y v u Q I rx ry h
  obtain ⟨a, i, rfl, rfl, ea, q⟩ := h
  obtain rfl : v = Value.ref a := rx
  obtain ⟨tk, rfl⟩ := (show ∃ tk, u = Value.int i tk from ry)
  obtain ⟨_, ya, va, ra, da⟩ := (show ObjOk X.prog X.w H s.heap a (.dK []) from I.hok a _ ea)
  exact rc_dict_int (knd := mixKind X.prog X.w) i tk da hr.units0 ⟨.bl false, H, I, rfl, q⟩
def neD : PyData → Bool
  | .dict [] => false
  | _ => true
theorem neD_eq {d : PyData} (h : neD d = false) : d = .dict [] := by
  cases d with
  | dict l => cases l with
    | nil => rfl
    | cons a l => cases h
  | _ => cases h
theorem o_eqDtI {μ : Md} {K : PySem.W.Frag} : OpS μ (fun x y H Q => rEqD K x y H Q ∨ rEq0 x y H Q) (rDt K) rInt rBl fun a i => .need (neD a = true → (a.canLay0 = true ∧ a.depth ≤ 64)) (.ret (neD a && PyData.eqv a (.int i))) := fun k F H c x y a b Q w hx hy q => by
  obtain ⟨q1, q⟩ := q
  obtain rfl : y = .int b := hy
  cases e : neD a with
  | false =>
    rw [e] at q
    right
    rcases hx with hx | ⟨_, p, e1, hp⟩
    · rw [neD_eq e] at hx; cases hx
    · exact ⟨p, b, e1, rfl, w.sub _ _ hp, q _ F H (ExtX.refl w.sub) w rfl⟩
  | true =>
    rw [e, Bool.true_and] at q
    exact .inl (o_eqDt k F H c x (.int b) a (.int b) Q w hx (.inl (.int b)) ⟨⟨q1 e, rfl, by simp [PyData.depth]⟩, q⟩)
theorem o_numI {μ : Md} {K : PySem.W.Frag} {CN : Addr} (O : OdT K CN) : OpS μ (rCmpS K CN false (spEq K CN) E0) (rNum CN) rInt rBl fun _ _ => .ret false := fun k F H c x y a b Q w hx hy q => by
  obtain rfl : y = .int b := hy
  exact o_oddEq k F H c x (.int b) a () Q w hx ⟨.type "int", fun H' s => .x (.base (.int b)), O.k "int" (by simp)⟩ q
end PF
set_option maxHeartbeats 4000000
namespace PF2
open PF PySem PySem.Spec PyProof.Rows L2 SlX
section
variable {P : Program} {w : World} {K : PySem.W.Frag} {mg : Str → Option Value} {base : Heap} {f CO CN CF CE : Addr} {fd : FuncData}
theorem sc__law_makes : FnScope ["_law_dice_here", "_law_odd", "_law_root", "_law_way", "_law_fine", "_law_made_here"] ["_law_dice_here"] (defScope (topS 38)) := ⟨rfl, rfl, rfl, by decide +kernel, rfl, by decide +kernel, by decide +kernel⟩
noncomputable def b__law_makes (ρ : (Unit × (Unit × (Unit × (Unit × (Unit × (Unit × Unit))))))) : M (Ct Unit Unit Bool) := (M.thn (M.bind (M.bind (M.bind (M.bind (M.bind (M.bind (M.ret ()) fun x1 => M.ret ((fun _ => PyData.none) x1)) fun x2 => M.ret (Sum.inl x2 : (Sum PyData Nm))) fun x41 => M.bind (M.bind (M.bind (M.bind (M.ret true) fun x3 => M.ret (PyData.bool x3)) fun x4 => M.ret (Sum.inl x4 : (Sum PyData Nm))) fun x39 => M.bind (M.bind (M.bind (M.bind (M.ret false) fun x5 => M.ret (PyData.bool x5)) fun x6 => M.ret (Sum.inl x6 : (Sum PyData Nm))) fun x37 => M.bind (M.bind (M.bind (M.bind (M.ret ("1" : Str)) fun x7 => M.ret (PyData.str x7)) fun x8 => M.ret (Sum.inl x8 : (Sum PyData Nm))) fun x35 => M.bind (M.bind (M.bind (M.bind (M.bind (M.ret (1 : Int)) fun x9 => M.bind (M.ret ()) fun x10 => M.ret (x9, x10)) fun x12 => M.ret ((fun (a : (Int × Unit)) => PyData.tuple ((fun (a : (Int × Unit)) => PyData.int a.1 :: (fun (_ : Unit) => ([] : List PyData)) a.2) a)) x12)) fun x13 => M.ret (Sum.inl x13 : (Sum PyData Nm))) fun x33 => M.bind (M.bind (M.bind (M.bind (M.bind (M.bind (M.ret (2 : Int)) fun x14 => M.bind (M.ret ()) fun x15 => M.ret (x14, x15)) fun r16 => M.ret [r16.1]) fun x17 => M.ret ((fun (xs : (List Int)) => PyData.list (xs.map PyData.int)) x17)) fun x18 => M.ret (Sum.inl x18 : (Sum PyData Nm))) fun x31 => M.bind (M.bind (M.bind (M.bind (M.ret ()) fun x19 => M.ret (PyData.dict [])) fun x20 => M.ret (Sum.inl x20 : (Sum PyData Nm))) fun x29 => M.bind (M.bind (M.bind (M.bind (M.ret (1 : Int)) fun x21 => M.ret (mkNm x21 0 0 1)) fun x22 => M.ret (Sum.inr x22 : (Sum PyData Nm))) fun x27 => M.bind (M.bind (M.bind (M.bind (M.ret ("" : Str)) fun x23 => M.ret (PyData.str x23)) fun x24 => M.ret (Sum.inl x24 : (Sum PyData Nm))) fun x25 => M.bind (M.ret ()) fun x26 => M.ret (x25, x26)) fun x28 => M.ret (x27, x28)) fun x30 => M.ret (x29, x30)) fun x32 => M.ret (x31, x32)) fun x34 => M.ret (x33, x34)) fun x36 => M.ret (x35, x36)) fun x38 => M.ret (x37, x38)) fun x40 => M.ret (x39, x40)) fun x42 => M.ret (x41, x42)) fun r43 => M.ret [r43.1, r43.2.1, r43.2.2.1, r43.2.2.2.1, r43.2.2.2.2.1, r43.2.2.2.2.2.1, r43.2.2.2.2.2.2.1, r43.2.2.2.2.2.2.2.1, r43.2.2.2.2.2.2.2.2.1]) fun x44 => M.pick x44) fun x45 => M.ret (.nx (ρ.1, x45, ρ.2.2))) fun ρ => (M.thn (M.bind (M.bind (M.bind (M.bind (M.bind (M.bind (M.ret ()) fun x46 => M.ret ((fun _ => PyData.none) x46)) fun x47 => M.ret (Sum.inl x47 : (Sum PyData Nm))) fun x108 => M.bind (M.bind (M.bind (M.bind (M.ret true) fun x48 => M.ret (PyData.bool x48)) fun x49 => M.ret (Sum.inl x49 : (Sum PyData Nm))) fun x106 => M.bind (M.bind (M.bind (M.bind (M.ret (1 : Int)) fun x50 => M.ret (PyData.int x50)) fun x51 => M.ret (Sum.inl x51 : (Sum PyData Nm))) fun x104 => M.bind (M.bind (M.bind (M.bind (M.ret (4 : Int)) fun x52 => M.ret (PyData.int x52)) fun x53 => M.ret (Sum.inl x53 : (Sum PyData Nm))) fun x102 => M.bind (M.bind (M.bind (M.bind (M.ret (8 : Int)) fun x54 => M.ret (PyData.int x54)) fun x55 => M.ret (Sum.inl x55 : (Sum PyData Nm))) fun x100 => M.bind (M.bind (M.bind (M.bind (M.ret (12 : Int)) fun x56 => M.ret (PyData.int x56)) fun x57 => M.ret (Sum.inl x57 : (Sum PyData Nm))) fun x98 => M.bind (M.bind (M.bind (M.bind (M.ret (1000 : Int)) fun x58 => M.ret (PyData.int x58)) fun x59 => M.ret (Sum.inl x59 : (Sum PyData Nm))) fun x96 => M.bind (M.bind (M.bind (M.bind (M.ret (1009 : Int)) fun x60 => M.ret (PyData.int x60)) fun x61 => M.ret (Sum.inl x61 : (Sum PyData Nm))) fun x94 => M.bind (M.bind (M.bind (M.bind (M.bind (M.ret (2 : Int)) fun x62 => M.ret (-x62)) fun x63 => M.ret (PyData.int x63)) fun x64 => M.ret (Sum.inl x64 : (Sum PyData Nm))) fun x92 => M.bind (M.bind (M.bind (M.bind (M.ret ("2" : Str)) fun x65 => M.ret (PyData.str x65)) fun x66 => M.ret (Sum.inl x66 : (Sum PyData Nm))) fun x90 => M.bind (M.bind (M.bind (M.bind (M.bind (M.ret (2 : Int)) fun x67 => M.bind (M.ret ()) fun x68 => M.ret (x67, x68)) fun x70 => M.ret ((fun (a : (Int × Unit)) => PyData.tuple ((fun (a : (Int × Unit)) => PyData.int a.1 :: (fun (_ : Unit) => ([] : List PyData)) a.2) a)) x70)) fun x71 => M.ret (Sum.inl x71 : (Sum PyData Nm))) fun x88 => M.bind (M.bind (M.bind (M.bind (M.ret (49 : Int)) fun x72 => M.ret (PyData.int x72)) fun x73 => M.ret (Sum.inl x73 : (Sum PyData Nm))) fun x86 => M.bind (M.bind (M.bind (M.bind (M.ret (980 : Int)) fun x74 => M.ret (PyData.int x74)) fun x75 => M.ret (Sum.inl x75 : (Sum PyData Nm))) fun x84 => M.bind (M.bind (M.bind (M.bind (M.bind (M.ret (10 : Int)) fun x76 => M.bind (M.ret (30 : Int)) fun x77 => M.need (CPow x76 x77) (M.ret (x76 ^ Int.toNat x77))) fun x78 => M.ret (PyData.int x78)) fun x79 => M.ret (Sum.inl x79 : (Sum PyData Nm))) fun x82 => M.bind (M.bind (M.ret ρ.2.1) fun x80 => M.bind (M.ret ()) fun x81 => M.ret (x80, x81)) fun x83 => M.ret (x82, x83)) fun x85 => M.ret (x84, x85)) fun x87 => M.ret (x86, x87)) fun x89 => M.ret (x88, x89)) fun x91 => M.ret (x90, x91)) fun x93 => M.ret (x92, x93)) fun x95 => M.ret (x94, x95)) fun x97 => M.ret (x96, x97)) fun x99 => M.ret (x98, x99)) fun x101 => M.ret (x100, x101)) fun x103 => M.ret (x102, x103)) fun x105 => M.ret (x104, x105)) fun x107 => M.ret (x106, x107)) fun x109 => M.ret (x108, x109)) fun r110 => M.ret [r110.1, r110.2.1, r110.2.2.1, r110.2.2.2.1, r110.2.2.2.2.1, r110.2.2.2.2.2.1, r110.2.2.2.2.2.2.1, r110.2.2.2.2.2.2.2.1, r110.2.2.2.2.2.2.2.2.1, r110.2.2.2.2.2.2.2.2.2.1, r110.2.2.2.2.2.2.2.2.2.2.1, r110.2.2.2.2.2.2.2.2.2.2.2.1, r110.2.2.2.2.2.2.2.2.2.2.2.2.1, r110.2.2.2.2.2.2.2.2.2.2.2.2.2.1, r110.2.2.2.2.2.2.2.2.2.2.2.2.2.2.1]) fun x111 => M.pick x111) fun x112 => M.ret (.nx (ρ.1, ρ.2.1, x112, ρ.2.2.2))) fun ρ => (M.thn (M.bind (M.bind (M.ret ρ.2.2.1) fun x113 => M.bind (M.ret (0 : Int)) fun x114 => sumE (fun z => M.need (neD z = true → (z.canLay0 = true ∧ z.depth ≤ 64)) (M.ret (neD z && PyData.eqv z (.int x114)))) (fun _ => M.ret false) x113) fun x118 => M.ifb x118 (M.bind (M.bind (M.bind (M.ret (4 : Int)) fun x115 => M.ret (PyData.int x115)) fun x116 => M.ret (Sum.inl x116 : (Sum PyData Nm))) fun x117 => M.ret (.nx (ρ.1, ρ.2.1, x117, ρ.2.2.2))) (M.ret (.nx ρ))) fun ρ => (M.thn (M.bind (M.bind (M.ret (8 : Int)) fun x119 => M.need (-(2 ^ 62) ≤ x119 ∧ x119 < 2 ^ 62) (M.ret (rng 0 x119))) fun l133 => M.forM l133 (fun (a120 : Int) (ρ : (Unit × ((Sum PyData Nm) × ((Sum PyData Nm) × (Unit × (Unit × (Unit × Unit))))))) => (fun ρ => (M.thn (M.bind (M.bind (M.still (m__law_word ((fun ρ => (M.bind (M.bind (M.safe (M.bind (M.ret ρ.2.2.2.1) fun x125 => M.bind (M.bind (M.ret ρ.2.1) fun x123 => M.bind (M.bind (M.ret ρ.2.2.1) fun x121 => M.bind (M.ret ()) fun x122 => M.ret (x121, x122)) fun x124 => M.ret (x123, x124)) fun x126 => M.ret (x125, x126))) fun r127 => M.still (m__law_wrong_X r127)) fun x128 => M.ret ())) ((), ρ.2.1, ρ.2.2.1, ρ.2.2.2.1, (), (), ρ.2.2.2.2.2.2)))) fun x129 => M.bind (M.ret ("number" : Str)) fun x130 => M.ret (!decide (x129 = x130))) fun x132 => M.ifb x132 (M.bind (M.ret false) fun x131 => M.ret (.rt x131)) (M.ret (.nx ρ))) fun ρ => M.ret (.nx (ρ.1, ρ.2.1, ρ.2.2.1, (), ρ.2.2.2.2.1, ρ.2.2.2.2.2.1, ρ.2.2.2.2.2.2)))) (ρ.1, ρ.2.1, ρ.2.2.1, a120, ρ.2.2.2.2)) ρ) fun ρ => (M.thn (M.bind (M.bind (M.bind (M.bind (M.ret (2 : Int)) fun x150 => M.bind (M.bind (M.ret (3 : Int)) fun x148 => M.bind (M.bind (M.ret (5 : Int)) fun x146 => M.bind (M.bind (M.ret (6 : Int)) fun x144 => M.bind (M.bind (M.ret (7 : Int)) fun x142 => M.bind (M.bind (M.ret (10 : Int)) fun x140 => M.bind (M.bind (M.ret (997 : Int)) fun x138 => M.bind (M.bind (M.ret (998 : Int)) fun x136 => M.bind (M.bind (M.ret (994 : Int)) fun x134 => M.bind (M.ret ()) fun x135 => M.ret (x134, x135)) fun x137 => M.ret (x136, x137)) fun x139 => M.ret (x138, x139)) fun x141 => M.ret (x140, x141)) fun x143 => M.ret (x142, x143)) fun x145 => M.ret (x144, x145)) fun x147 => M.ret (x146, x147)) fun x149 => M.ret (x148, x149)) fun x151 => M.ret (x150, x151)) fun r152 => M.ret [r152.1, r152.2.1, r152.2.2.1, r152.2.2.2.1, r152.2.2.2.2.1, r152.2.2.2.2.2.1, r152.2.2.2.2.2.2.1, r152.2.2.2.2.2.2.2.1, r152.2.2.2.2.2.2.2.2.1]) fun x153 => M.pick x153) fun x154 => M.ret (.nx (ρ.1, ρ.2.1, ρ.2.2.1, ρ.2.2.2.1, x154, ρ.2.2.2.2.2))) fun ρ => (M.thn (M.bind (M.bind (M.ret (0 : Int)) fun x157 => M.bind (M.bind (M.ret (2 : Int)) fun x155 => M.ret (-x155)) fun x158 => M.bind (M.ret ρ.2.2.2.2.1) fun x159 => M.bind (M.bind (M.ret (4 : Int)) fun x156 => M.ret (-x156)) fun x160 => M.need (x160 ≠ 0 ∧ okRoot x159 x158 ∧ Bd 9000 x160) (M.ret (mkNm x157 x158 x159 x160))) fun x161 => M.ret (.nx (ρ.1, ρ.2.1, ρ.2.2.1, ρ.2.2.2.1, ρ.2.2.2.2.1, x161, ρ.2.2.2.2.2.2))) fun ρ => (M.bind (M.bind (M.bind (M.bind (M.bind (M.ret ρ.2.2.2.2.2.1) fun x162 => M.ret ((fun n => n.t) x162)) fun x178 => M.bind (M.bind (M.bind (M.ret ρ.2.2.2.2.2.1) fun x163 => M.ret ((fun n => n.p) x163)) fun x176 => M.bind (M.bind (M.bind (M.ret ρ.2.2.2.2.2.1) fun x164 => M.ret ((fun n => n.r) x164)) fun x174 => M.bind (M.bind (M.bind (M.ret ρ.2.2.2.2.2.1) fun x165 => M.ret ((fun n => n.b) x165)) fun x172 => M.bind (M.bind (M.bind (M.bind (M.ret (1 : Int)) fun x166 => M.bind (M.ret (0 : Int)) fun x167 => M.bind (M.ret ρ.2.2.2.2.1) fun x168 => M.need (okRoot x168 x167) (M.ret (mkNm x166 x167 x168 1))) fun x169 => M.ret ((fun n => n.r) x169)) fun x170 => M.bind (M.ret ()) fun x171 => M.ret (x170, x171)) fun x173 => M.ret (x172, x173)) fun x175 => M.ret (x174, x175)) fun x177 => M.ret (x176, x177)) fun x179 => M.ret (x178, x179)) fun r180 => M.ret [r180.1, r180.2.1, r180.2.2.1, r180.2.2.2.1, r180.2.2.2.2.1]) fun x192 => M.bind (M.bind (M.bind (M.ret (0 : Int)) fun x189 => M.bind (M.bind (M.ret (1 : Int)) fun x187 => M.bind (M.bind (M.ret ρ.2.2.2.2.1) fun x185 => M.bind (M.bind (M.ret (2 : Int)) fun x183 => M.bind (M.bind (M.ret (0 : Int)) fun x181 => M.bind (M.ret ()) fun x182 => M.ret (x181, x182)) fun x184 => M.ret (x183, x184)) fun x186 => M.ret (x185, x186)) fun x188 => M.ret (x187, x188)) fun x190 => M.ret (x189, x190)) fun r191 => M.ret [r191.1, r191.2.1, r191.2.2.1, r191.2.2.2.1, r191.2.2.2.2.1]) fun x193 => M.need (((fun (xs : (List Int)) => PyData.list (xs.map PyData.int)) x192).canLay0 = true ∧ ((fun (xs : (List Int)) => PyData.list (xs.map PyData.int)) x193).canLay0 = true) (M.ret (PyData.eqv ((fun (xs : (List Int)) => PyData.list (xs.map PyData.int)) x192) ((fun (xs : (List Int)) => PyData.list (xs.map PyData.int)) x193)))) fun x194 => M.ret (.rt x194))))))))
noncomputable def m__law_makes (a : Unit) : M Bool := M.fin (b__law_makes ((), ((), ((), ((), ((), ((), ())))))))
theorem ok__law_makes (F : FunC K "_law_makes" "_law_makes" (topS 38) f fd 420) (bn : Binds K fd ["_law_dice_here"] []) {A_InvalidNumber A_InvalidOperation : Addr} (G_Number : GM P w K mg base "Number" CN 6 [.int 0, .int 0, .int 1] (spNumI CN CF)) (G__law_pick : GD P w K mg base "_law_pick" 3 spPick) (TN : NTxt K mg CN CF) (ON : OdT K CN) (G_eq : GE P w K mg base CN 2 (spEq K CN)) (fr : Free mg) (R__law_wrong : GR P w K mg base "_law_wrong" 7 (spOfF K mg flE (aCons rInt (aCons (rUn (rDt K) (rNum CN)) (aCons (rUn (rDt K) (rNum CN)) aNil))) rAny m__law_wrong_X)) (T__law_word : GTh K mg "_law_word" "_law_call" (topS 36)) (TB__law_makes : LamX.TabB base mg 420 416) (X_InvalidNumber : GX K mg "InvalidNumber" A_InvalidNumber) (E_InvalidNumber_InvalidNumber : PySem.W.exmOne K (.ref A_InvalidNumber) (.ref A_InvalidNumber) = some true) (X_InvalidOperation : GX K mg "InvalidOperation" A_InvalidOperation) (E_InvalidOperation_InvalidNumber : PySem.W.exmOne K (.ref A_InvalidOperation) (.ref A_InvalidNumber) = some false) (E_InvalidOperation_InvalidOperation : PySem.W.exmOne K (.ref A_InvalidOperation) (.ref A_InvalidOperation) = some true) (G_NumberK : GMK P w K mg base "Number" CN 6 2 ["root", "bottom"] (spNumI CN CF)) (P_top : GP P w K mg base CN "top" 2 (spInt0 CN fun n => n.t)) (P_part : GP P w K mg base CN "part" 2 (spInt0 CN fun n => n.p)) (P_root : GP P w K mg base CN "root" 2 (spInt0 CN fun n => n.r)) (P_bottom : GP P w K mg base CN "bottom" 2 (spInt0 CN fun n => n.b)) (G_Number2root : GMKg P w K mg base "Number" CN 6 2 ["root"] (fun vs zs => vs ++ zs ++ [V.int 1]) (spNumI CN CF)) : FnG P w K mg base 12 f 1 (spOfDT aNil rBl m__law_makes) := by
  refine PF.FunC.okG F sc__law_makes bn (fun A outer s H vs Q hgd hr h => ⟨_, (pss_cons (ps_set (i := 1) sc__law_makes.nd rfl (by first | exact Or.inl rfl | exact Or.inr rfl) (pe_c1 G__law_pick (hr.mono (by decide)) (pa_cons (pv 0) (pa_cons (pe_lst (pa_cons pe_non (pa_cons pe_bl (pa_cons pe_bl (pa_cons pe_str (pa_cons (pe_tup (pa_cons pe_int pa_nil)) (pa_cons (pe_lst (pa_cons pe_int pa_nil)) (pa_cons pe_dnewK (pa_cons (pe_m1 G_Number (hr.mono (by decide)) (pa_cons pe_int pa_nil)) (pa_cons pe_str pa_nil)))))))))) pa_nil))))
  (pss_cons (ps_set (i := 2) sc__law_makes.nd rfl (by first | exact Or.inl rfl | exact Or.inr rfl) (pe_c1 G__law_pick (hr.mono (by decide)) (pa_cons (pv 0) (pa_cons (pe_lst (pa_cons pe_non (pa_cons pe_bl (pa_cons pe_int (pa_cons pe_int (pa_cons pe_int (pa_cons pe_int (pa_cons pe_int (pa_cons pe_int (pa_cons (pe_un un_neg pe_int) (pa_cons pe_str (pa_cons (pe_tup (pa_cons pe_int pa_nil)) (pa_cons pe_int (pa_cons pe_int (pa_cons (pe_op op_pow pe_int pe_int) (pa_cons (pv 1) pa_nil)))))))))))))))) pa_nil))))
  (pss_cons (ps_if (pt_cmpR (op_orE (op_orE (op_eqD (have h := hu64 hr; h) : OpR _ _ (rEqD K)) (op_eq0 (hr.mono (by decide)))) (op_eqE G_eq (hr.mono (by decide)) : OpR _ _ (rCmpS K CN false (spEq K CN) E0))) (pv 2) pe_int (nomark _)) (pss_one (ps_set (i := 2) sc__law_makes.nd rfl (by first | exact Or.inl rfl | exact Or.inr rfl) pe_int)) pss_nil)
  (pss_cons (ps_for PassesOwn.never rfl (pi_range1 (by rfl) fr.b_range (pa_cons pe_int pa_nil)) (pg_name (i := 3) sc__law_makes.nd rfl (by first | exact Or.inl rfl | exact Or.inr rfl)) (pss_one (ps_if (pt_cmpR op_ne (pe_lmT (k := 2) (Ng := ["_law_call"]) (c := 420) (P := 416) T__law_word sc__law_word rfl (by first | exact Or.inl rfl | exact Or.inr (Or.inl rfl)) (gv__law_word X_InvalidNumber E_InvalidNumber_InvalidNumber X_InvalidOperation E_InvalidOperation_InvalidNumber E_InvalidOperation_InvalidOperation hgd) TB__law_makes rfl (hr.mono (by decide)) (LamX.lamS_by (sc := defScope (topS 38)) (by decide +kernel)) (fun A outer s H E f c' hr => (pe_cX (takes_of rfl rfl rfl rfl) R__law_wrong (hr.mono (by decide)) (pa_cons (pv 3) (pa_cons (pv 1) (pa_cons (pv 2) pa_nil)))))) pe_str (nomark _)) (pss_one (ps_ret pe_bl)) pss_nil)))
  (pss_cons (ps_set (i := 4) sc__law_makes.nd rfl (by first | exact Or.inl rfl | exact Or.inr rfl) (pe_c1 G__law_pick (hr.mono (by decide)) (pa_cons (pv 0) (pa_cons (pe_lst (pa_cons pe_int (pa_cons pe_int (pa_cons pe_int (pa_cons pe_int (pa_cons pe_int (pa_cons pe_int (pa_cons pe_int (pa_cons pe_int (pa_cons pe_int pa_nil)))))))))) pa_nil))))
  (pss_cons (ps_set (i := 5) sc__law_makes.nd rfl (by first | exact Or.inl rfl | exact Or.inr rfl) (pe_mk G_NumberK (hr.mono (by decide)) (pa_cons pe_int (pa_cons (pe_un un_neg pe_int) pa_nil)) (pk_cons (pv 4) (pk_cons (pe_un un_neg pe_int) pk_nil))))
  (pss_one (ps_ret (pe_cmpR (op_eqD (have h := hu64 hr; h) : OpR _ _ (rEqD K)) (pe_lst (pa_cons (pe_p1 TN.cN P_top (hr.mono (by decide)) (pv 5)) (pa_cons (pe_p1 TN.cN P_part (hr.mono (by decide)) (pv 5)) (pa_cons (pe_p1 TN.cN P_root (hr.mono (by decide)) (pv 5)) (pa_cons (pe_p1 TN.cN P_bottom (hr.mono (by decide)) (pv 5)) (pa_cons (pe_p1 TN.cN P_root (hr.mono (by decide)) (pe_mkg G_Number2root (hr.mono (by decide)) (pa_cons pe_int (pa_cons pe_int pa_nil)) (pk_cons (pv 4) pk_nil))) pa_nil)))))) (pe_lst (pa_cons pe_int (pa_cons pe_int (pa_cons (pv 4) (pa_cons pe_int (pa_cons pe_int pa_nil)))))) (nomark _)))))))))), ?_⟩)
  refine fn_bodyDT (X := E0) (S := aNil) (E' := eNil) (R := rBl) (stt_dice (stt_un (stt_un (stt_un (stt_un (stt_un stt_nil)))))) rfl (s_seq (s_asg (e_pick get0 (SN.se (n_lst (hom_cons (hom_cons (hom_cons (hom_cons (hom_cons (hom_cons (hom_cons (hom_cons (hom_cons hom_nil))))))))) (a_cons (e_coeX (Rb := (rUn (rDt K) (rNum CN))) coe_l (e_dat dp_non e_non)) (a_cons (e_coeX (Rb := (rUn (rDt K) (rNum CN))) coe_l (e_dat dp_bl e_bl)) (a_cons (e_coeX (Rb := (rUn (rDt K) (rNum CN))) coe_l (e_dat dp_bl e_bl)) (a_cons (e_coeX (Rb := (rUn (rDt K) (rNum CN))) coe_l (e_dat dp_str e_str)) (a_cons (e_coeX (Rb := (rUn (rDt K) (rNum CN))) coe_l (e_dat (dp_tx (dpa_cons dp_int dpa_nil)) (e_tup (a_cons e_int a_nil) (le_n 1)))) (a_cons (e_coeX (Rb := (rUn (rDt K) (rNum CN))) coe_l (e_dat (dp_ls dp_int) (SN.se (n_lst (hom_cons hom_nil) (a_cons e_int a_nil) (le_n 1))))) (a_cons (e_coeX (Rb := (rUn (rDt K) (rNum CN))) coe_l (e_d0Dt e_dnew)) (a_cons (e_coeX (Rb := (rUn (rDt K) (rNum CN))) coe_r (e_mkNum1 e_int)) (a_cons (e_coeX (Rb := (rUn (rDt K) (rNum CN))) coe_l (e_dat dp_str e_str)) a_nil))))))))) (le_n 9)))) (g_name pu1))
  (s_seq (s_asg (e_pick get0 (SN.se (n_lst (hom_cons (hom_cons (hom_cons (hom_cons (hom_cons (hom_cons (hom_cons (hom_cons (hom_cons (hom_cons (hom_cons (hom_cons (hom_cons (hom_cons (hom_cons hom_nil))))))))))))))) (a_cons (e_coeX (Rb := (rUn (rDt K) (rNum CN))) coe_l (e_dat dp_non e_non)) (a_cons (e_coeX (Rb := (rUn (rDt K) (rNum CN))) coe_l (e_dat dp_bl e_bl)) (a_cons (e_coeX (Rb := (rUn (rDt K) (rNum CN))) coe_l (e_dat dp_int e_int)) (a_cons (e_coeX (Rb := (rUn (rDt K) (rNum CN))) coe_l (e_dat dp_int e_int)) (a_cons (e_coeX (Rb := (rUn (rDt K) (rNum CN))) coe_l (e_dat dp_int e_int)) (a_cons (e_coeX (Rb := (rUn (rDt K) (rNum CN))) coe_l (e_dat dp_int e_int)) (a_cons (e_coeX (Rb := (rUn (rDt K) (rNum CN))) coe_l (e_dat dp_int e_int)) (a_cons (e_coeX (Rb := (rUn (rDt K) (rNum CN))) coe_l (e_dat dp_int e_int)) (a_cons (e_coeX (Rb := (rUn (rDt K) (rNum CN))) coe_l (e_dat dp_int (e_un (u_ii fun _ => rfl) e_int))) (a_cons (e_coeX (Rb := (rUn (rDt K) (rNum CN))) coe_l (e_dat dp_str e_str)) (a_cons (e_coeX (Rb := (rUn (rDt K) (rNum CN))) coe_l (e_dat (dp_tx (dpa_cons dp_int dpa_nil)) (e_tup (a_cons e_int a_nil) (le_n 1)))) (a_cons (e_coeX (Rb := (rUn (rDt K) (rNum CN))) coe_l (e_dat dp_int e_int)) (a_cons (e_coeX (Rb := (rUn (rDt K) (rNum CN))) coe_l (e_dat dp_int e_int)) (a_cons (e_coeX (Rb := (rUn (rDt K) (rNum CN))) coe_l (e_dat dp_int (e_op (o_iiC fun _ _ => rfl) e_int e_int))) (a_cons (e_var gt1) a_nil))))))))))))))) (le_n 15)))) (g_name pu2))
  (s_seq (s_if (t_of (e_op (o_un o_eqDtI (o_numI ON)) (e_var gt2) e_int)) (s_asg (e_coeX (Rb := (rUn (rDt K) (rNum CN))) coe_l (e_dat dp_int e_int)) (g_name pu2)) s_nil)
  (s_seq (s_for (i_rng1 e_int) (g_name pu3) (s_post (s_if (t_of (e_op (o_ne sc_str) (e_lam (P := 416) (q := ((Str.ofString "_law_makes") ++ (Str.ofString ".<locals>.") ++ (Str.ofString "<lambda>"))) (R := rStr) (mw := m__law_word) List.mem_cons_self (by decide +kernel) (hasTS (hasTS (hasTS (hasTS (hasTS (hasTS hasT0)))))) (plv_un (plv_val (plv_val (plv_val (plv_un (plv_un plv_tab)))))) (fun XE => (se_any (e_callF (fun _ => rfl) (sa_safe (a_cons (e_var gt3) (a_cons (e_var gt1) (a_cons (e_var gt2) a_nil)))))))) e_str)) (s_ret e_bl) s_nil) (wk_fg (fg_keep (fg_keep (fg_keep (fg_un (fg_keep (fg_keep fg_idG)))))))))
  (s_seq (s_asg (e_pick get0 (SN.se (n_lst (hom_cons (hom_cons (hom_cons (hom_cons (hom_cons (hom_cons (hom_cons (hom_cons (hom_cons hom_nil))))))))) (a_cons e_int (a_cons e_int (a_cons e_int (a_cons e_int (a_cons e_int (a_cons e_int (a_cons e_int (a_cons e_int (a_cons e_int a_nil))))))))) (le_n 9)))) (g_name pu4))
  (s_seq (s_asg (e_mkNum4 e_int (e_un (u_ii fun _ => rfl) e_int) (e_var gt4) (e_un (u_ii fun _ => rfl) e_int)) (g_name pu5))
  (s_ret (e_op (o_eqD (da := (fun (xs : (List Int)) => PyData.list (xs.map PyData.int))) (db := (fun (xs : (List Int)) => PyData.list (xs.map PyData.int))) (dp_ls dp_int) (dp_ls dp_int)) (SN.se (n_lst (hom_cons (hom_cons (hom_cons (hom_cons (hom_cons hom_nil))))) (a_cons (e_numInt0 (e_var gt5)) (a_cons (e_numInt0 (e_var gt5)) (a_cons (e_numInt0 (e_var gt5)) (a_cons (e_numInt0 (e_var gt5)) (a_cons (e_numInt0 (e_mkNumR e_int e_int (e_var gt4))) a_nil))))) (le_n 5))) (SN.se (n_lst (hom_cons (hom_cons (hom_cons (hom_cons (hom_cons hom_nil))))) (a_cons e_int (a_cons e_int (a_cons (e_var gt4) (a_cons e_int (a_cons e_int a_nil))))) (le_n 5))))))))))) ?_
  exact h
theorem sc__law_reckons : FnScope ["_law_dice_here", "_law_one", "_law_other", "_law_odd", "_law_way", "_law_nought"] ["_law_dice_here"] (defScope (topS 40)) := ⟨rfl, rfl, rfl, by decide +kernel, rfl, by decide +kernel, by decide +kernel⟩
noncomputable def b__law_reckons (ρ : (Unit × (Unit × (Unit × (Unit × (Unit × (Unit × Unit))))))) : M (Ct Unit Unit Bool) := (M.thn (M.bind (M.bind (M.bind (M.bind (M.bind (M.bind (M.bind (M.ret (1 : Int)) fun x201 => M.bind (M.bind (M.ret (2 : Int)) fun x199 => M.bind (M.bind (M.ret (5 : Int)) fun x197 => M.bind (M.bind (M.ret (3 : Int)) fun x195 => M.bind (M.ret ()) fun x196 => M.ret (x195, x196)) fun x198 => M.ret (x197, x198)) fun x200 => M.ret (x199, x200)) fun x202 => M.ret (x201, x202)) fun x228 => M.bind (M.bind (M.bind (M.ret (0 : Int)) fun x210 => M.bind (M.bind (M.ret (1 : Int)) fun x208 => M.bind (M.bind (M.ret (5 : Int)) fun x206 => M.bind (M.bind (M.ret (1 : Int)) fun x204 => M.bind (M.ret ()) fun x205 => M.ret (x204, x205)) fun x207 => M.ret (x206, x207)) fun x209 => M.ret (x208, x209)) fun x211 => M.ret (x210, x211)) fun x226 => M.bind (M.bind (M.bind (M.bind (M.ret (7 : Int)) fun x213 => M.ret (-x213)) fun x221 => M.bind (M.bind (M.bind (M.ret (1 : Int)) fun x214 => M.ret (-x214)) fun x219 => M.bind (M.bind (M.ret (5 : Int)) fun x217 => M.bind (M.bind (M.ret (2 : Int)) fun x215 => M.bind (M.ret ()) fun x216 => M.ret (x215, x216)) fun x218 => M.ret (x217, x218)) fun x220 => M.ret (x219, x220)) fun x222 => M.ret (x221, x222)) fun x224 => M.bind (M.ret ()) fun x225 => M.ret (x224, x225)) fun x227 => M.ret (x226, x227)) fun x229 => M.ret (x228, x229)) fun r230 => M.ret [r230.1, r230.2.1, r230.2.2.1]) fun x231 => M.pick x231) fun x232 => M.bind (M.ret ()) fun x233 => M.ret (x232, x233)) fun r234 => M.still (m__law_made r234)) fun x235 => M.ret (.nx (ρ.1, x235, ρ.2.2))) fun ρ => (M.thn (M.bind (M.bind (M.bind (M.bind (M.bind (M.bind (M.bind (M.ret (1 : Int)) fun x242 => M.bind (M.bind (M.ret (1 : Int)) fun x240 => M.bind (M.bind (M.ret (2 : Int)) fun x238 => M.bind (M.bind (M.ret (1 : Int)) fun x236 => M.bind (M.ret ()) fun x237 => M.ret (x236, x237)) fun x239 => M.ret (x238, x239)) fun x241 => M.ret (x240, x241)) fun x243 => M.ret (x242, x243)) fun x268 => M.bind (M.bind (M.bind (M.ret (0 : Int)) fun x252 => M.bind (M.bind (M.bind (M.ret (4 : Int)) fun x245 => M.ret (-x245)) fun x250 => M.bind (M.bind (M.ret (3 : Int)) fun x248 => M.bind (M.bind (M.ret (7 : Int)) fun x246 => M.bind (M.ret ()) fun x247 => M.ret (x246, x247)) fun x249 => M.ret (x248, x249)) fun x251 => M.ret (x250, x251)) fun x253 => M.ret (x252, x253)) fun x266 => M.bind (M.bind (M.bind (M.ret (3 : Int)) fun x261 => M.bind (M.bind (M.ret (1 : Int)) fun x259 => M.bind (M.bind (M.ret (7 : Int)) fun x257 => M.bind (M.bind (M.ret (2 : Int)) fun x255 => M.bind (M.ret ()) fun x256 => M.ret (x255, x256)) fun x258 => M.ret (x257, x258)) fun x260 => M.ret (x259, x260)) fun x262 => M.ret (x261, x262)) fun x264 => M.bind (M.ret ()) fun x265 => M.ret (x264, x265)) fun x267 => M.ret (x266, x267)) fun x269 => M.ret (x268, x269)) fun r270 => M.ret [r270.1, r270.2.1, r270.2.2.1]) fun x271 => M.pick x271) fun x272 => M.bind (M.ret ()) fun x273 => M.ret (x272, x273)) fun r274 => M.still (m__law_made r274)) fun x275 => M.ret (.nx (ρ.1, ρ.2.1, x275, ρ.2.2.2))) fun ρ => (M.thn (M.bind (M.bind (M.bind (M.bind (M.bind (M.ret ()) fun x276 => M.ret ((fun _ => PyData.none) x276)) fun x304 => M.bind (M.bind (M.bind (M.ret true) fun x277 => M.ret (PyData.bool x277)) fun x302 => M.bind (M.bind (M.bind (M.ret false) fun x278 => M.ret (PyData.bool x278)) fun x300 => M.bind (M.bind (M.bind (M.ret ("1" : Str)) fun x279 => M.ret (PyData.str x279)) fun x298 => M.bind (M.bind (M.bind (M.bind (M.ret (1 : Int)) fun x280 => M.bind (M.ret ()) fun x281 => M.ret (x280, x281)) fun x283 => M.ret ((fun (a : (Int × Unit)) => PyData.tuple ((fun (a : (Int × Unit)) => PyData.int a.1 :: (fun (_ : Unit) => ([] : List PyData)) a.2) a)) x283)) fun x296 => M.bind (M.bind (M.bind (M.bind (M.bind (M.ret (2 : Int)) fun x284 => M.bind (M.ret ()) fun x285 => M.ret (x284, x285)) fun r286 => M.ret [r286.1]) fun x287 => M.ret ((fun (xs : (List Int)) => PyData.list (xs.map PyData.int)) x287)) fun x294 => M.bind (M.bind (M.bind (M.ret ()) fun x288 => M.ret (PyData.dict [])) fun x292 => M.bind (M.bind (M.bind (M.ret ("" : Str)) fun x289 => M.ret (PyData.str x289)) fun x290 => M.bind (M.ret ()) fun x291 => M.ret (x290, x291)) fun x293 => M.ret (x292, x293)) fun x295 => M.ret (x294, x295)) fun x297 => M.ret (x296, x297)) fun x299 => M.ret (x298, x299)) fun x301 => M.ret (x300, x301)) fun x303 => M.ret (x302, x303)) fun x305 => M.ret (x304, x305)) fun r306 => M.ret [r306.1, r306.2.1, r306.2.2.1, r306.2.2.2.1, r306.2.2.2.2.1, r306.2.2.2.2.2.1, r306.2.2.2.2.2.2.1, r306.2.2.2.2.2.2.2.1]) fun x307 => M.pick x307) fun x308 => M.ret (.nx (ρ.1, ρ.2.1, ρ.2.2.1, x308, ρ.2.2.2.2))) fun ρ => (M.thn (M.bind (M.bind (M.ret (5 : Int)) fun x309 => M.need (-(2 ^ 62) ≤ x309 ∧ x309 < 2 ^ 62) (M.ret (rng 0 x309))) fun l374 => M.forM l374 (fun (a310 : Int) (ρ : (Unit × (Nm × (Nm × (PyData × (Unit × (Unit × Unit))))))) => (fun ρ => (M.thn (M.thn (M.bind (M.bind (M.still (m__law_word ((fun ρ => (M.bind (M.bind (M.safe (M.bind (M.ret ρ.2.2.2.2.1) fun x316 => M.bind (M.bind (M.ret ρ.2.1) fun x314 => M.bind (M.bind (M.bind (M.ret ρ.2.2.1) fun x311 => M.ret (Sum.inr x311 : (Sum PyData Nm))) fun x312 => M.bind (M.ret ()) fun x313 => M.ret (x312, x313)) fun x315 => M.ret (x314, x315)) fun x317 => M.ret (x316, x317))) fun r318 => M.still (m__law_used_X r318)) fun x319 => M.ret ())) ((), ρ.2.1, ρ.2.2.1, (), ρ.2.2.2.2.1, (), ρ.2.2.2.2.2.2)))) fun x320 => M.bind (M.ret ("number" : Str)) fun x321 => M.ret (!decide (x320 = x321))) fun x323 => M.ifb x323 (M.bind (M.ret false) fun x322 => M.ret (.rt x322)) (M.ret (.nx ρ))) fun ρ => (M.thn (M.bind (M.bind (M.bind (M.ret ρ.2.2.2.2.1) fun x324 => M.bind (M.ret (2 : Int)) fun x325 => M.ret (decide (x325 < x324))) fun x337 => M.ifb x337 (M.bind (M.still (m__law_word ((fun ρ => (M.bind (M.bind (M.safe (M.bind (M.ret ρ.2.2.2.2.1) fun x331 => M.bind (M.bind (M.ret ρ.2.2.1) fun x329 => M.bind (M.bind (M.bind (M.ret ρ.2.2.2.1) fun x326 => M.ret (Sum.inl x326 : (Sum PyData Nm))) fun x327 => M.bind (M.ret ()) fun x328 => M.ret (x327, x328)) fun x330 => M.ret (x329, x330)) fun x332 => M.ret (x331, x332))) fun r333 => M.still (m__law_used_X r333)) fun x334 => M.ret ())) ((), (), ρ.2.2.1, ρ.2.2.2.1, ρ.2.2.2.2.1, (), ρ.2.2.2.2.2.2)))) fun x335 => M.bind (M.ret ("number" : Str)) fun x336 => M.ret (!decide (x335 = x336))) (M.ret false)) fun x339 => M.ifb x339 (M.bind (M.ret false) fun x338 => M.ret (.rt x338)) (M.ret (.nx ρ))) fun ρ => (M.thn (M.bind (M.bind (M.bind (M.ret ρ.2.2.2.2.1) fun x340 => M.bind (M.ret (3 : Int)) fun x341 => M.ret (!decide (x340 = x341))) fun x356 => M.ifb x356 (M.bind (M.still (m__law_word ((fun ρ => (M.bind (M.bind (M.safe (M.bind (M.ret ρ.2.2.2.2.1) fun x350 => M.bind (M.bind (M.ret ρ.2.1) fun x348 => M.bind (M.bind (M.bind (M.bind (M.ret ρ.2.2.1) fun x342 => M.bind (M.bind (M.ret ρ.2.2.1) fun x344 => M.ret (id x344)) fun x343 => M.need (Two x342 x343 ∧ True) (M.ret (subN x342 x343))) fun x345 => M.ret (Sum.inr x345 : (Sum PyData Nm))) fun x346 => M.bind (M.ret ()) fun x347 => M.ret (x346, x347)) fun x349 => M.ret (x348, x349)) fun x351 => M.ret (x350, x351))) fun r352 => M.still (m__law_used_X r352)) fun x353 => M.ret ())) ((), ρ.2.1, ρ.2.2.1, (), ρ.2.2.2.2.1, (), ρ.2.2.2.2.2.2)))) fun x354 => M.bind (M.ret ("fine" : Str)) fun x355 => M.ret (!decide (x354 = x355))) (M.ret false)) fun x358 => M.ifb x358 (M.bind (M.ret false) fun x357 => M.ret (.rt x357)) (M.ret (.nx ρ))) fun ρ => (M.bind (M.bind (M.still (m__law_word ((fun ρ => (M.bind (M.bind (M.safe (M.bind (M.ret ρ.2.2.2.2.1) fun x366 => M.bind (M.bind (M.ret ρ.2.2.1) fun x364 => M.bind (M.bind (M.bind (M.bind (M.ret (3 : Int)) fun x359 => M.bind (M.ret (4 : Int)) fun x360 => M.need (x360 ≠ 0 ∧ Bd 9000 x360) (M.ret (mkNm x359 0 0 x360))) fun x361 => M.ret (Sum.inr x361 : (Sum PyData Nm))) fun x362 => M.bind (M.ret ()) fun x363 => M.ret (x362, x363)) fun x365 => M.ret (x364, x365)) fun x367 => M.ret (x366, x367))) fun r368 => M.still (m__law_used_X r368)) fun x369 => M.ret ())) ((), (), ρ.2.2.1, (), ρ.2.2.2.2.1, (), ρ.2.2.2.2.2.2)))) fun x370 => M.bind (M.ret ("fine" : Str)) fun x371 => M.ret (!decide (x370 = x371))) fun x373 => M.ifb x373 (M.bind (M.ret false) fun x372 => M.ret (.rt x372)) (M.ret (.nx ρ)))))) fun ρ => M.ret (.nx (ρ.1, ρ.2.1, ρ.2.2.1, ρ.2.2.2.1, (), ρ.2.2.2.2.2.1, ρ.2.2.2.2.2.2)))) (ρ.1, ρ.2.1, ρ.2.2.1, ρ.2.2.2.1, a310, ρ.2.2.2.2.2)) ρ) fun ρ => (M.thn (M.bind (M.bind (M.bind (M.bind (M.bind (M.bind (M.ret (0 : Int)) fun x375 => M.ret (PyData.int x375)) fun x376 => M.ret (Sum.inl x376 : (Sum PyData Nm))) fun x393 => M.bind (M.bind (M.bind (M.bind (M.ret (0 : Int)) fun x377 => M.ret (mkNm x377 0 0 1)) fun x378 => M.ret (Sum.inr x378 : (Sum PyData Nm))) fun x391 => M.bind (M.bind (M.bind (M.bind (M.ret ρ.2.1) fun x379 => M.bind (M.bind (M.ret ρ.2.1) fun x381 => M.ret (id x381)) fun x380 => M.need (Two x379 x380 ∧ True) (M.ret (subN x379 x380))) fun x382 => M.ret (Sum.inr x382 : (Sum PyData Nm))) fun x389 => M.bind (M.bind (M.bind (M.bind (M.ret ρ.2.2.1) fun x383 => M.bind (M.bind (M.ret ρ.2.2.1) fun x385 => M.ret (id x385)) fun x384 => M.need (Two x383 x384 ∧ True) (M.ret (subN x383 x384))) fun x386 => M.ret (Sum.inr x386 : (Sum PyData Nm))) fun x387 => M.bind (M.ret ()) fun x388 => M.ret (x387, x388)) fun x390 => M.ret (x389, x390)) fun x392 => M.ret (x391, x392)) fun x394 => M.ret (x393, x394)) fun r395 => M.ret [r395.1, r395.2.1, r395.2.2.1, r395.2.2.2.1]) fun x396 => M.pick x396) fun x397 => M.ret (.nx (ρ.1, ρ.2.1, ρ.2.2.1, ρ.2.2.2.1, ρ.2.2.2.2.1, x397, ρ.2.2.2.2.2.2))) fun ρ => (M.bind (M.bind (M.still (m__law_word ((fun ρ => (M.bind (M.bind (M.safe (M.ret ρ.2.1)) fun x401 => M.bind (M.safe (M.bind (M.ret ρ.2.2.2.2.2.1) fun x399 => M.bind (M.ret ()) fun x400 => M.ret (x399, x400))) fun r398 => M.still (m_Number_over_X (x401, r398))) fun x402 => M.ret ())) ((), ρ.2.1, (), (), (), ρ.2.2.2.2.2.1, ρ.2.2.2.2.2.2)))) fun x403 => M.bind (M.ret ("operation" : Str)) fun x404 => M.ret (decide (x403 = x404))) fun x405 => M.ret (.rt x405)))))))
noncomputable def m__law_reckons (a : Unit) : M Bool := M.fin (b__law_reckons ((), ((), ((), ((), ((), ((), ())))))))
theorem ok__law_reckons (F : FunC K "_law_reckons" "_law_reckons" (topS 40) f fd 434) (bn : Binds K fd ["_law_dice_here"] []) {A_InvalidNumber A_InvalidOperation : Addr} (G__law_pick : GD P w K mg base "_law_pick" 3 spPick) (G__law_made : GD P w K mg base "_law_made" 8 (spOf (aCons (rTx K (aCons rInt (aCons rInt (aCons rInt (aCons rInt aNil))))) aNil) (rNum CN) m__law_made)) (fr : Free mg) (R__law_used : GR P w K mg base "_law_used" 11 (spOfF K mg flE (aCons rInt (aCons (rNum CN) (aCons (rUn (rDt K) (rNum CN)) aNil))) rAny m__law_used_X)) (T__law_word : GTh K mg "_law_word" "_law_call" (topS 36)) (TB__law_reckons : LamX.TabB base mg 434 430) (X_InvalidNumber : GX K mg "InvalidNumber" A_InvalidNumber) (E_InvalidNumber_InvalidNumber : PySem.W.exmOne K (.ref A_InvalidNumber) (.ref A_InvalidNumber) = some true) (X_InvalidOperation : GX K mg "InvalidOperation" A_InvalidOperation) (E_InvalidOperation_InvalidNumber : PySem.W.exmOne K (.ref A_InvalidOperation) (.ref A_InvalidNumber) = some false) (E_InvalidOperation_InvalidOperation : PySem.W.exmOne K (.ref A_InvalidOperation) (.ref A_InvalidOperation) = some true) (G_sub : GB P w K mg base CN .Sub 9 (spBin CN subN fun _ _ => True)) (G_Number1bottom : GMKg P w K mg base "Number" CN 6 1 ["bottom"] (fun vs zs => vs ++ [V.int 0] ++ [V.int 0] ++ zs) (spNumI CN CF)) (G_Number : GM P w K mg base "Number" CN 6 [.int 0, .int 0, .int 1] (spNumI CN CF)) (TN : NTxt K mg CN CF) (GMX_over : GMeX P w K mg base CN "over" 10 (spOfF K mg flE (aCons (rNum CN) (aCons (rUn (rDt K) (rNum CN)) aNil)) (rNum CN) m_Number_over_X)) : FnG P w K mg base 16 f 1 (spOfDT aNil rBl m__law_reckons) := by
  refine PF.FunC.okG F sc__law_reckons bn (fun A outer s H vs Q hgd hr h => ⟨_, (pss_cons (ps_set (i := 1) sc__law_reckons.nd rfl (by first | exact Or.inl rfl | exact Or.inr rfl) (pe_c1 G__law_made (hr.mono (by decide)) (pa_cons (pe_c1 G__law_pick (hr.mono (by decide)) (pa_cons (pv 0) (pa_cons (pe_lst (pa_cons (pe_tup (pa_cons pe_int (pa_cons pe_int (pa_cons pe_int (pa_cons pe_int pa_nil))))) (pa_cons (pe_tup (pa_cons pe_int (pa_cons pe_int (pa_cons pe_int (pa_cons pe_int pa_nil))))) (pa_cons (pe_tup (pa_cons (pe_un un_neg pe_int) (pa_cons (pe_un un_neg pe_int) (pa_cons pe_int (pa_cons pe_int pa_nil))))) pa_nil)))) pa_nil))) pa_nil)))
  (pss_cons (ps_set (i := 2) sc__law_reckons.nd rfl (by first | exact Or.inl rfl | exact Or.inr rfl) (pe_c1 G__law_made (hr.mono (by decide)) (pa_cons (pe_c1 G__law_pick (hr.mono (by decide)) (pa_cons (pv 0) (pa_cons (pe_lst (pa_cons (pe_tup (pa_cons pe_int (pa_cons pe_int (pa_cons pe_int (pa_cons pe_int pa_nil))))) (pa_cons (pe_tup (pa_cons pe_int (pa_cons (pe_un un_neg pe_int) (pa_cons pe_int (pa_cons pe_int pa_nil))))) (pa_cons (pe_tup (pa_cons pe_int (pa_cons pe_int (pa_cons pe_int (pa_cons pe_int pa_nil))))) pa_nil)))) pa_nil))) pa_nil)))
  (pss_cons (ps_set (i := 3) sc__law_reckons.nd rfl (by first | exact Or.inl rfl | exact Or.inr rfl) (pe_c1 G__law_pick (hr.mono (by decide)) (pa_cons (pv 0) (pa_cons (pe_lst (pa_cons pe_non (pa_cons pe_bl (pa_cons pe_bl (pa_cons pe_str (pa_cons (pe_tup (pa_cons pe_int pa_nil)) (pa_cons (pe_lst (pa_cons pe_int pa_nil)) (pa_cons pe_dnewK (pa_cons pe_str pa_nil))))))))) pa_nil))))
  (pss_cons (ps_for PassesOwn.never rfl (pi_range1 (by rfl) fr.b_range (pa_cons pe_int pa_nil)) (pg_name (i := 4) sc__law_reckons.nd rfl (by first | exact Or.inl rfl | exact Or.inr rfl)) (pss_cons (ps_if (pt_cmpR op_ne (pe_lmT (k := 6) (Ng := ["_law_call"]) (c := 434) (P := 430) T__law_word sc__law_word rfl (by first | exact Or.inl rfl | exact Or.inr (Or.inl rfl)) (gv__law_word X_InvalidNumber E_InvalidNumber_InvalidNumber X_InvalidOperation E_InvalidOperation_InvalidNumber E_InvalidOperation_InvalidOperation hgd) TB__law_reckons rfl (hr.mono (by decide)) (LamX.lamS_by (sc := defScope (topS 40)) (by decide +kernel)) (fun A outer s H E f c' hr => (pe_cX (takes_of rfl rfl rfl rfl) R__law_used (hr.mono (by decide)) (pa_cons (pv 4) (pa_cons (pv 1) (pa_cons (pv 2) pa_nil)))))) pe_str (nomark _)) (pss_one (ps_ret pe_bl)) pss_nil)
  (pss_cons (ps_if (PW.pt (pw_and (pt_cmpR op_gt (pv 4) pe_int (nomark _)) (pw_and1 (pt_cmpR op_ne (pe_lmT (k := 6) (Ng := ["_law_call"]) (c := 434) (P := 430) T__law_word sc__law_word rfl (by first | exact Or.inl rfl | exact Or.inr (Or.inl rfl)) (gv__law_word X_InvalidNumber E_InvalidNumber_InvalidNumber X_InvalidOperation E_InvalidOperation_InvalidNumber E_InvalidOperation_InvalidOperation hgd) TB__law_reckons rfl (hr.mono (by decide)) (LamX.lamS_by (sc := defScope (topS 40)) (by decide +kernel)) (fun A outer s H E f c' hr => (pe_cX (takes_of rfl rfl rfl rfl) R__law_used (hr.mono (by decide)) (pa_cons (pv 4) (pa_cons (pv 2) (pa_cons (pv 3) pa_nil)))))) pe_str (nomark _))))) (pss_one (ps_ret pe_bl)) pss_nil)
  (pss_cons (ps_if (PW.pt (pw_and (pt_cmpR op_ne (pv 4) pe_int (nomark _)) (pw_and1 (pt_cmpR op_ne (pe_lmT (k := 6) (Ng := ["_law_call"]) (c := 434) (P := 430) T__law_word sc__law_word rfl (by first | exact Or.inl rfl | exact Or.inr (Or.inl rfl)) (gv__law_word X_InvalidNumber E_InvalidNumber_InvalidNumber X_InvalidOperation E_InvalidOperation_InvalidNumber E_InvalidOperation_InvalidOperation hgd) TB__law_reckons rfl (hr.mono (by decide)) (LamX.lamS_by (sc := defScope (topS 40)) (by decide +kernel)) (fun A outer s H E f c' hr => (pe_cX (takes_of rfl rfl rfl rfl) R__law_used (hr.mono (by decide)) (pa_cons (pv 4) (pa_cons (pv 1) (pa_cons (pe_op (op_b G_sub (hr.mono (by decide))) (pv 2) (pv 2)) pa_nil)))))) pe_str (nomark _))))) (pss_one (ps_ret pe_bl)) pss_nil)
  (pss_one (ps_if (pt_cmpR op_ne (pe_lmT (k := 6) (Ng := ["_law_call"]) (c := 434) (P := 430) T__law_word sc__law_word rfl (by first | exact Or.inl rfl | exact Or.inr (Or.inl rfl)) (gv__law_word X_InvalidNumber E_InvalidNumber_InvalidNumber X_InvalidOperation E_InvalidOperation_InvalidNumber E_InvalidOperation_InvalidOperation hgd) TB__law_reckons rfl (hr.mono (by decide)) (LamX.lamS_by (sc := defScope (topS 40)) (by decide +kernel)) (fun A outer s H E f c' hr => (pe_cX (takes_of rfl rfl rfl rfl) R__law_used (hr.mono (by decide)) (pa_cons (pv 4) (pa_cons (pv 2) (pa_cons (pe_mkg G_Number1bottom (hr.mono (by decide)) (pa_cons pe_int pa_nil) (pk_cons pe_int pk_nil)) pa_nil)))))) pe_str (nomark _)) (pss_one (ps_ret pe_bl)) pss_nil))))))
  (pss_cons (ps_set (i := 5) sc__law_reckons.nd rfl (by first | exact Or.inl rfl | exact Or.inr rfl) (pe_c1 G__law_pick (hr.mono (by decide)) (pa_cons (pv 0) (pa_cons (pe_lst (pa_cons pe_int (pa_cons (pe_m1 G_Number (hr.mono (by decide)) (pa_cons pe_int pa_nil)) (pa_cons (pe_op (op_b G_sub (hr.mono (by decide))) (pv 1) (pv 1)) (pa_cons (pe_op (op_b G_sub (hr.mono (by decide))) (pv 2) (pv 2)) pa_nil))))) pa_nil))))
  (pss_one (ps_ret (pe_cmpR op_eq (pe_lmT (k := 5) (Ng := ["_law_call"]) (c := 434) (P := 430) T__law_word sc__law_word rfl (by first | exact Or.inl rfl | exact Or.inr (Or.inl rfl)) (gv__law_word X_InvalidNumber E_InvalidNumber_InvalidNumber X_InvalidOperation E_InvalidOperation_InvalidNumber E_InvalidOperation_InvalidOperation hgd) TB__law_reckons rfl (hr.mono (by decide)) (LamX.lamS_by (sc := defScope (topS 40)) (by decide +kernel)) (fun A outer s H E f c' hr => (pe_meX (takes_of rfl rfl rfl rfl) TN.cN GMX_over (hr.mono (by decide)) (pv 1) (pa_cons (pv 5) pa_nil)))) pe_str (nomark _))))))))), ?_⟩)
  refine fn_bodyDT (X := E0) (S := aNil) (E' := eNil) (R := rBl) (stt_dice (stt_un (stt_un (stt_un (stt_un (stt_un stt_nil)))))) rfl (s_seq (s_asg (e_call (a_cons (e_pick get0 (SN.se (n_lst (hom_cons (hom_cons (hom_cons hom_nil))) (a_cons (e_tup (a_cons e_int (a_cons e_int (a_cons e_int (a_cons e_int a_nil)))) (le_n 4)) (a_cons (e_tup (a_cons e_int (a_cons e_int (a_cons e_int (a_cons e_int a_nil)))) (le_n 4)) (a_cons (e_tup (a_cons (e_un (u_ii fun _ => rfl) e_int) (a_cons (e_un (u_ii fun _ => rfl) e_int) (a_cons e_int (a_cons e_int a_nil)))) (le_n 4)) a_nil))) (le_n 3)))) a_nil)) (g_name pu1))
  (s_seq (s_asg (e_call (a_cons (e_pick get0 (SN.se (n_lst (hom_cons (hom_cons (hom_cons hom_nil))) (a_cons (e_tup (a_cons e_int (a_cons e_int (a_cons e_int (a_cons e_int a_nil)))) (le_n 4)) (a_cons (e_tup (a_cons e_int (a_cons (e_un (u_ii fun _ => rfl) e_int) (a_cons e_int (a_cons e_int a_nil)))) (le_n 4)) (a_cons (e_tup (a_cons e_int (a_cons e_int (a_cons e_int (a_cons e_int a_nil)))) (le_n 4)) a_nil))) (le_n 3)))) a_nil)) (g_name pu2))
  (s_seq (s_asg (e_pick get0 (SN.se (n_lst (hom_cons (hom_cons (hom_cons (hom_cons (hom_cons (hom_cons (hom_cons (hom_cons hom_nil)))))))) (a_cons (e_dat dp_non e_non) (a_cons (e_dat dp_bl e_bl) (a_cons (e_dat dp_bl e_bl) (a_cons (e_dat dp_str e_str) (a_cons (e_dat (dp_tx (dpa_cons dp_int dpa_nil)) (e_tup (a_cons e_int a_nil) (le_n 1))) (a_cons (e_dat (dp_ls dp_int) (SN.se (n_lst (hom_cons hom_nil) (a_cons e_int a_nil) (le_n 1)))) (a_cons (e_d0Dt e_dnew) (a_cons (e_dat dp_str e_str) a_nil)))))))) (le_n 8)))) (g_name pu3))
  (s_seq (s_for (i_rng1 e_int) (g_name pu4) (s_post (s_seq (s_if (t_of (e_op (o_ne sc_str) (e_lam (P := 430) (q := ((Str.ofString "_law_reckons") ++ (Str.ofString ".<locals>.") ++ (Str.ofString "<lambda>"))) (R := rStr) (mw := m__law_word) (List.mem_cons_of_mem _ List.mem_cons_self) (by decide +kernel) (hasTS (hasTS (hasTS (hasTS (hasTS (hasTS hasT0)))))) (plv_un (plv_val (plv_val (plv_un (plv_val (plv_un plv_tab)))))) (fun XE => (se_any (e_callF (fun _ => rfl) (sa_safe (a_cons (e_var gt4) (a_cons (e_var gt1) (a_cons (e_coeX (Rb := (rUn (rDt K) (rNum CN))) coe_r (e_var gt2)) a_nil)))))))) e_str)) (s_ret e_bl) s_nil)
  (s_seq (s_if (t_and (t_of (e_op (o_ib fun _ _ => rfl) (e_var gt4) e_int)) (t_of (e_op (o_ne sc_str) (e_lam (P := 430) (q := ((Str.ofString "_law_reckons") ++ (Str.ofString ".<locals>.") ++ (Str.ofString "<lambda>"))) (R := rStr) (mw := m__law_word) (List.mem_cons_of_mem _ List.mem_cons_self) (by decide +kernel) (hasTS (hasTS (hasTS (hasTS (hasTS (hasTS hasT0)))))) (plv_un (plv_un (plv_val (plv_val (plv_val (plv_un plv_tab)))))) (fun XE => (se_any (e_callF (fun _ => rfl) (sa_safe (a_cons (e_var gt4) (a_cons (e_var gt2) (a_cons (e_coeX (Rb := (rUn (rDt K) (rNum CN))) coe_l (e_var gt3)) a_nil)))))))) e_str))) (s_ret e_bl) s_nil)
  (s_seq (s_if (t_and (t_of (e_op (o_ne sc_int) (e_var gt4) e_int)) (t_of (e_op (o_ne sc_str) (e_lam (P := 430) (q := ((Str.ofString "_law_reckons") ++ (Str.ofString ".<locals>.") ++ (Str.ofString "<lambda>"))) (R := rStr) (mw := m__law_word) (List.mem_cons_of_mem _ List.mem_cons_self) (by decide +kernel) (hasTS (hasTS (hasTS (hasTS (hasTS (hasTS hasT0)))))) (plv_un (plv_val (plv_val (plv_un (plv_val (plv_un plv_tab)))))) (fun XE => (se_any (e_callF (fun _ => rfl) (sa_safe (a_cons (e_var gt4) (a_cons (e_var gt1) (a_cons (e_coeX (Rb := (rUn (rDt K) (rNum CN))) coe_r (e_op o_num (e_var gt2) (e_coe coe_num (e_var gt2)))) a_nil)))))))) e_str))) (s_ret e_bl) s_nil)
  (s_if (t_of (e_op (o_ne sc_str) (e_lam (P := 430) (q := ((Str.ofString "_law_reckons") ++ (Str.ofString ".<locals>.") ++ (Str.ofString "<lambda>"))) (R := rStr) (mw := m__law_word) (List.mem_cons_of_mem _ List.mem_cons_self) (by decide +kernel) (hasTS (hasTS (hasTS (hasTS (hasTS (hasTS hasT0)))))) (plv_un (plv_un (plv_val (plv_un (plv_val (plv_un plv_tab)))))) (fun XE => (se_any (e_callF (fun _ => rfl) (sa_safe (a_cons (e_var gt4) (a_cons (e_var gt2) (a_cons (e_coeX (Rb := (rUn (rDt K) (rNum CN))) coe_r (e_mkNumB e_int e_int)) a_nil)))))))) e_str)) (s_ret e_bl) s_nil)))) (wk_fg (fg_keep (fg_keep (fg_keep (fg_keep (fg_un (fg_keep fg_idG)))))))))
  (s_seq (s_asg (e_pick get0 (SN.se (n_lst (hom_cons (hom_cons (hom_cons (hom_cons hom_nil)))) (a_cons (e_coeX (Rb := (rUn (rDt K) (rNum CN))) coe_l (e_dat dp_int e_int)) (a_cons (e_coeX (Rb := (rUn (rDt K) (rNum CN))) coe_r (e_mkNum1 e_int)) (a_cons (e_coeX (Rb := (rUn (rDt K) (rNum CN))) coe_r (e_op o_num (e_var gt1) (e_coe coe_num (e_var gt1)))) (a_cons (e_coeX (Rb := (rUn (rDt K) (rNum CN))) coe_r (e_op o_num (e_var gt2) (e_coe coe_num (e_var gt2)))) a_nil)))) (le_n 4)))) (g_name pu5))
  (s_ret (e_op (o_eq sc_str) (e_lam (P := 430) (q := ((Str.ofString "_law_reckons") ++ (Str.ofString ".<locals>.") ++ (Str.ofString "<lambda>"))) (R := rStr) (mw := m__law_word) (List.mem_cons_of_mem _ List.mem_cons_self) (by decide +kernel) (hasTS (hasTS (hasTS (hasTS (hasTS (hasTS hasT0)))))) (plv_un (plv_val (plv_un (plv_un (plv_un (plv_val plv_tab)))))) (fun XE => (se_any (e_meX sl_num (fun _ => rfl) (se_safe (e_var gt1)) (sa_safe (a_cons (e_var gt5) a_nil)))))) e_str))))))) ?_
  exact h
theorem sc__law_together : FnScope ["_law_dice_here", "_law_roots", "_law_turn", "_law_numbers", "_law_root", "_law_unlike", "_law_bad"] ["_law_dice_here"] (defScope (topS 41)) := ⟨rfl, rfl, rfl, by decide +kernel, rfl, by decide +kernel, by decide +kernel⟩
noncomputable def b__law_together (ρ : (Unit × (Unit × (Unit × (Unit × (Unit × (Unit × (Unit × Unit)))))))) : M (Ct Unit Unit Bool) := (M.thn (M.bind (M.bind (M.bind (M.bind (M.ret (5 : Int)) fun x406 => M.roll x406) fun x407 => M.need (-(2 ^ 62) ≤ x407 ∧ x407 < 2 ^ 62) (M.ret (rng 0 x407))) fun l421 => M.need (l421.length ≤ 1000000) (M.lcM l421 fun (a422 : Int) => M.bind ((fun ρ => (M.ret true)) (ρ.1, ρ.2.1, a422, ρ.2.2.2)) fun (b423 : Bool) => M.ifb b423 (M.bind ((fun ρ => (M.bind (M.bind (M.bind (M.ret (0 : Int)) fun x416 => M.bind (M.bind (M.ret (0 : Int)) fun x414 => M.bind (M.bind (M.ret (2 : Int)) fun x412 => M.bind (M.bind (M.ret (3 : Int)) fun x410 => M.bind (M.bind (M.ret (5 : Int)) fun x408 => M.bind (M.ret ()) fun x409 => M.ret (x408, x409)) fun x411 => M.ret (x410, x411)) fun x413 => M.ret (x412, x413)) fun x415 => M.ret (x414, x415)) fun x417 => M.ret (x416, x417)) fun r418 => M.ret [r418.1, r418.2.1, r418.2.2.1, r418.2.2.2.1, r418.2.2.2.2.1]) fun x419 => M.pick x419)) (ρ.1, ρ.2.1, a422, ρ.2.2.2)) fun (y424 : Int) => M.ret (some y424)) (M.ret none))) fun x425 => M.ret (.nx (ρ.1, x425, ρ.2.2))) fun ρ => (M.thn (M.bind (M.bind (M.bind (M.bind (M.ret ρ.2.1) fun l435 => M.need (l435.length ≤ 1000000) (M.lcM l435 fun (a436 : Int) => M.bind ((fun ρ => (M.ret true)) (ρ.1, ρ.2.1, ρ.2.2.1, ρ.2.2.2.1, a436, ρ.2.2.2.2.2)) fun (b437 : Bool) => M.ifb b437 (M.bind ((fun ρ => (M.bind (M.ret (1 : Int)) fun x431 => M.bind (M.bind (M.bind (M.bind (M.ret ρ.2.2.2.2.1) fun x426 => M.bind (M.ret (0 : Int)) fun x427 => M.ret (decide (x427 < x426))) fun x428 => M.bind (M.ret ()) fun x429 => M.ret (x428, x429)) fun r430 => M.ret (if r430.1 = true then 1 else 0)) fun x432 => M.bind (M.ret ρ.2.2.2.2.1) fun x433 => M.need (okRoot x433 x432) (M.ret (mkNm x431 x432 x433 1)))) (ρ.1, ρ.2.1, ρ.2.2.1, ρ.2.2.2.1, a436, ρ.2.2.2.2.2)) fun (y438 : Nm) => M.ret (some y438)) (M.ret none))) fun x439 => M.bind (M.ret ()) fun x440 => M.ret (x439, x440)) fun r441 => M.ret r441.1) fun x442 => M.ret (.nx (ρ.1, ρ.2.1, ρ.2.2.1, x442, ρ.2.2.2.2))) fun ρ => (M.thn (M.bind (M.bind (M.bind (M.ret ρ.2.1) fun l449 => M.need (l449.length ≤ 1000000) (M.lcM l449 fun (a450 : Int) => M.bind ((fun ρ => (M.bind (M.ret ρ.2.2.2.2.1) fun x443 => M.bind (M.ret (0 : Int)) fun x444 => M.ret (decide (x444 < x443)))) (ρ.1, ρ.2.1, ρ.2.2.1, ρ.2.2.2.1, a450, ρ.2.2.2.2.2)) fun (b451 : Bool) => M.ifb b451 (M.bind ((fun ρ => (M.bind (M.bind (M.ret ρ.2.2.2.2.1) fun x445 => M.bind (M.ret ()) fun x446 => M.ret (x445, x446)) fun r447 => M.ret r447.1)) (ρ.1, ρ.2.1, ρ.2.2.1, ρ.2.2.2.1, a450, ρ.2.2.2.2.2)) fun (y452 : Int) => M.ret (some y452)) (M.ret none))) fun x453 => M.need (x453.length ≤ 4000) (M.ret ((ddI x453).length : Int))) fun x454 => M.ret (.nx (ρ.1, ρ.2.1, ρ.2.2.1, ρ.2.2.2.1, ρ.2.2.2.2.1, x454, ρ.2.2.2.2.2.2))) fun ρ => (M.thn (M.bind (M.bind (M.bind (M.bind (M.bind (M.bind (M.ret ρ.2.2.2.1) fun x455 => M.bind (M.ret ()) fun x456 => M.ret (x455, x456)) fun r457 => M.still (m_have_one_root r457)) fun x458 => M.bind (M.ret ()) fun x459 => M.ret (x458, x459)) fun r460 => M.need ((PyData.bool r460.1).showable = true ∧ (PyData.bool r460.1).hasDict = false ∧ (PyData.bool r460.1).shown.length ≤ sizeLine ∧ (PyData.bool r460.1).depth ≤ 64) (M.ret (PyData.bool r460.1).shown)) fun x466 => M.bind (M.bind (M.bind (M.bind (M.ret ρ.2.2.2.2.2.1) fun x461 => M.bind (M.ret (2 : Int)) fun x462 => M.ret (decide (x461 < x462))) fun x463 => M.bind (M.ret ()) fun x464 => M.ret (x463, x464)) fun r465 => M.need ((PyData.bool r465.1).showable = true ∧ (PyData.bool r465.1).hasDict = false ∧ (PyData.bool r465.1).shown.length ≤ sizeLine ∧ (PyData.bool r465.1).depth ≤ 64) (M.ret (PyData.bool r465.1).shown)) fun x467 => M.ret (!decide (x466 = x467))) fun x469 => M.ifb x469 (M.bind (M.ret false) fun x468 => M.ret (.rt x468)) (M.ret (.nx ρ))) fun ρ => (M.thn (M.bind (M.bind (M.bind (M.bind (M.bind (M.bind (M.ret ()) fun x470 => M.ret ((fun _ => PyData.none) x470)) fun x471 => M.ret (Sum.inl x471 : (Sum PyData (Sum (List Nm) (List (Sum PyData Nm)))))) fun x524 => M.bind (M.bind (M.bind (M.bind (M.ret (5 : Int)) fun x472 => M.ret (PyData.int x472)) fun x473 => M.ret (Sum.inl x473 : (Sum PyData (Sum (List Nm) (List (Sum PyData Nm)))))) fun x522 => M.bind (M.bind (M.bind (M.bind (M.bind (M.bind (M.ret ρ.2.2.2.1) fun x474 => M.bind (M.ret ()) fun x475 => M.ret (x474, x475)) fun r476 => M.ret r476.1) fun x477 => M.ret (Sum.inl x477 : (Sum (List Nm) (List (Sum PyData Nm))))) fun x478 => M.ret (Sum.inr x478 : (Sum PyData (Sum (List Nm) (List (Sum PyData Nm)))))) fun x520 => M.bind (M.bind (M.bind (M.bind (M.bind (M.bind (M.ret ρ.2.2.2.1) fun x484 => M.ret (List.map Sum.inr x484 : (List (Sum PyData Nm)))) fun x482 => M.bind (M.bind (M.bind (M.bind (M.ret (1 : Int)) fun x479 => M.bind (M.ret ()) fun x480 => M.ret (x479, x480)) fun r481 => M.ret [r481.1]) fun x485 => M.ret (List.map (fun (z : Int) => Sum.inl (PyData.int z)) x485 : (List (Sum PyData Nm)))) fun x483 => M.need (x482.length + x483.length ≤ sizeLine) (M.ret (x482 ++ x483))) fun x486 => M.ret (Sum.inr x486 : (Sum (List Nm) (List (Sum PyData Nm))))) fun x487 => M.ret (Sum.inr x487 : (Sum PyData (Sum (List Nm) (List (Sum PyData Nm)))))) fun x518 => M.bind (M.bind (M.bind (M.bind (M.bind (M.bind (M.ret ρ.2.2.2.1) fun x493 => M.ret (List.map Sum.inr x493 : (List (Sum PyData Nm)))) fun x491 => M.bind (M.bind (M.bind (M.bind (M.ret ()) fun x488 => M.bind (M.ret ()) fun x489 => M.ret (x488, x489)) fun r490 => M.ret [r490.1]) fun x494 => M.ret (List.map (fun (z : Unit) => Sum.inl ((fun _ => PyData.none) z)) x494 : (List (Sum PyData Nm)))) fun x492 => M.need (x491.length + x492.length ≤ sizeLine) (M.ret (x491 ++ x492))) fun x495 => M.ret (Sum.inr x495 : (Sum (List Nm) (List (Sum PyData Nm))))) fun x496 => M.ret (Sum.inr x496 : (Sum PyData (Sum (List Nm) (List (Sum PyData Nm)))))) fun x516 => M.bind (M.bind (M.bind (M.bind (M.ret ()) fun x497 => M.ret (PyData.dict [])) fun x498 => M.ret (Sum.inl x498 : (Sum PyData (Sum (List Nm) (List (Sum PyData Nm)))))) fun x514 => M.bind (M.bind (M.bind (M.bind (M.ret ("" : Str)) fun x499 => M.ret (PyData.str x499)) fun x500 => M.ret (Sum.inl x500 : (Sum PyData (Sum (List Nm) (List (Sum PyData Nm)))))) fun x512 => M.bind (M.bind (M.bind (M.bind (M.bind (M.bind (M.ret ρ.2.2.2.1) fun x506 => M.ret (List.map Sum.inr x506 : (List (Sum PyData Nm)))) fun x504 => M.bind (M.bind (M.bind (M.bind (M.ret true) fun x501 => M.bind (M.ret ()) fun x502 => M.ret (x501, x502)) fun r503 => M.ret [r503.1]) fun x507 => M.ret (List.map (fun (z : Bool) => Sum.inl (PyData.bool z)) x507 : (List (Sum PyData Nm)))) fun x505 => M.need (x504.length + x505.length ≤ sizeLine) (M.ret (x504 ++ x505))) fun x508 => M.ret (Sum.inr x508 : (Sum (List Nm) (List (Sum PyData Nm))))) fun x509 => M.ret (Sum.inr x509 : (Sum PyData (Sum (List Nm) (List (Sum PyData Nm)))))) fun x510 => M.bind (M.ret ()) fun x511 => M.ret (x510, x511)) fun x513 => M.ret (x512, x513)) fun x515 => M.ret (x514, x515)) fun x517 => M.ret (x516, x517)) fun x519 => M.ret (x518, x519)) fun x521 => M.ret (x520, x521)) fun x523 => M.ret (x522, x523)) fun x525 => M.ret (x524, x525)) fun r526 => M.ret [r526.1, r526.2.1, r526.2.2.1, r526.2.2.2.1, r526.2.2.2.2.1, r526.2.2.2.2.2.1, r526.2.2.2.2.2.2.1, r526.2.2.2.2.2.2.2.1]) fun x527 => M.pick x527) fun x528 => M.ret (.nx (ρ.1, ρ.2.1, ρ.2.2.1, ρ.2.2.2.1, ρ.2.2.2.2.1, ρ.2.2.2.2.2.1, x528, ρ.2.2.2.2.2.2.2))) fun ρ => (M.bind (M.bind (M.still (m__law_word ((fun ρ => (M.bind (M.bind (M.safe (M.bind (M.ret ρ.2.2.2.2.2.2.1) fun x529 => M.bind (M.ret ()) fun x530 => M.ret (x529, x530))) fun r531 => M.still (m_have_one_root_X r531)) fun x532 => M.ret ())) ((), (), (), (), (), (), ρ.2.2.2.2.2.2.1, ρ.2.2.2.2.2.2.2)))) fun x533 => M.bind (M.ret ("number" : Str)) fun x534 => M.ret (decide (x533 = x534))) fun x535 => M.ret (.rt x535)))))))
noncomputable def m__law_together (a : Unit) : M Bool := M.fin (b__law_together ((), ((), ((), ((), ((), ((), ((), ()))))))))
theorem ok__law_together (F : FunC K "_law_together" "_law_together" (topS 41) f fd 439) (bn : Binds K fd ["_law_dice_here"] []) {A_InvalidNumber A_InvalidOperation : Addr} (fr : Free mg) (G__law_roll : GD P w K mg base "_law_roll" 2 spRoll) (G__law_pick : GD P w K mg base "_law_pick" 3 spPick) (G_Number2root : GMKg P w K mg base "Number" CN 6 2 ["root"] (fun vs zs => vs ++ zs ++ [V.int 1]) (spNumI CN CF)) (G_have_one_root : GD P w K mg base "have_one_root" 3 (spOf (aCons (rTup K (rNum CN)) aNil) rBl m_have_one_root)) (R_have_one_root : GR P w K mg base "have_one_root" 2 (spOfF K mg flE (aCons (rUn (rDt K) (rUn (rLs (rNum CN)) (rTup K (rUn (rDt K) (rNum CN))))) aNil) rBl m_have_one_root_X)) (T__law_word : GTh K mg "_law_word" "_law_call" (topS 36)) (TB__law_together : LamX.TabB base mg 439 437) (X_InvalidNumber : GX K mg "InvalidNumber" A_InvalidNumber) (E_InvalidNumber_InvalidNumber : PySem.W.exmOne K (.ref A_InvalidNumber) (.ref A_InvalidNumber) = some true) (X_InvalidOperation : GX K mg "InvalidOperation" A_InvalidOperation) (E_InvalidOperation_InvalidNumber : PySem.W.exmOne K (.ref A_InvalidOperation) (.ref A_InvalidNumber) = some false) (E_InvalidOperation_InvalidOperation : PySem.W.exmOne K (.ref A_InvalidOperation) (.ref A_InvalidOperation) = some true) : FnG P w K mg base 10 f 1 (spOfDT aNil rBl m__law_together) := by
  refine PF.FunC.okG F sc__law_together bn (fun A outer s H vs Q hgd hr h => ⟨_, (pss_cons (ps_setLc (i := 1) (own := [("_law_turn", 2)]) (by rfl) sc__law_together.nd rfl rfl (sw_true rfl rfl rfl (by decide +kernel)) (pi_range1 (by rfl) fr.b_range (pa_cons (pe_c1 G__law_roll (hr.mono (by decide)) (pa_cons (pv 0) (pa_cons pe_int pa_nil))) pa_nil)) (blkOk_by (own := [("_law_turn", 2)]) (N := ["_law_dice_here", "_law_roots", "_law_turn", "_law_numbers", "_law_root", "_law_unlike", "_law_bad"]) (sc := defScope (topS 41)) (by decide +kernel)) (fun _ _ _ _ _ => (pg_name (i := 2) sc__law_together.nd rfl (by first | exact Or.inl rfl | exact Or.inr rfl))) (fun _ _ _ _ _ => pts_nil) (fun _ _ _ _ _ => (pe_c1 G__law_pick (hr.mono (by decide)) (pa_cons (pv 0) (pa_cons (pe_lst (pa_cons pe_int (pa_cons pe_int (pa_cons pe_int (pa_cons pe_int (pa_cons pe_int pa_nil)))))) pa_nil)))))
  (pss_cons (ps_set (i := 3) sc__law_together.nd rfl (by first | exact Or.inl rfl | exact Or.inr rfl) (pe_callTy call_tuple_of (by rfl) fr.b_tuple (by decide +kernel) (pa_cons (pe_lc (own := [("_law_root", 4)]) (by rfl) sc__law_together.nd  (pi_list (pv 1)) (blkOk_by (own := [("_law_root", 4)]) (N := ["_law_dice_here", "_law_roots", "_law_turn", "_law_numbers", "_law_root", "_law_unlike", "_law_bad"]) (sc := defScope (topS 41)) (by decide +kernel)) (fun _ _ _ _ _ => (pg_name (i := 4) sc__law_together.nd rfl (by first | exact Or.inl rfl | exact Or.inr rfl))) (fun _ _ _ _ _ => pts_nil) (fun _ _ _ _ _ => (pe_mkg G_Number2root (hr.mono (by decide)) (pa_cons pe_int (pa_cons (pe_callTy call_int1 (by rfl) fr.b_int (by decide +kernel) (pa_cons (pe_cmpR op_gt (pv 4) pe_int (nomark _)) pa_nil)) pa_nil)) (pk_cons (pv 4) pk_nil)))) pa_nil)))
  (pss_cons (ps_set (i := 5) sc__law_together.nd rfl (by first | exact Or.inl rfl | exact Or.inr rfl) (pe_lenSetJ (by rfl) fr.b_len (by rfl) fr.b_set (pe_lc (own := [("_law_root", 4)]) (by rfl) sc__law_together.nd  (pi_list (pv 1)) (blkOk_by (own := [("_law_root", 4)]) (N := ["_law_dice_here", "_law_roots", "_law_turn", "_law_numbers", "_law_root", "_law_unlike", "_law_bad"]) (sc := defScope (topS 41)) (by decide +kernel)) (fun _ _ _ _ _ => (pg_name (i := 4) sc__law_together.nd rfl (by first | exact Or.inl rfl | exact Or.inr rfl))) (fun _ _ _ _ _ => (pts_one (pt_cmpR op_gt (pv 4) pe_int (nomark _)))) (fun _ _ _ _ _ => (pe_callTy call_int1 (by rfl) fr.b_int (by decide +kernel) (pa_cons (pv 4) pa_nil))))))
  (pss_cons (ps_if (pt_cmpR op_ne (pe_callB (call_repr hgd (hu100 hr)) (by rfl) fr.b_repr (by decide +kernel) (pa_cons (pe_c1 G_have_one_root (hr.mono (by decide)) (pa_cons (pv 3) pa_nil)) pa_nil)) (pe_callB (call_repr hgd (hu100 hr)) (by rfl) fr.b_repr (by decide +kernel) (pa_cons (pe_cmpR op_lt (pv 5) pe_int (nomark _)) pa_nil)) (nomark _)) (pss_one (ps_ret pe_bl)) pss_nil)
  (pss_cons (ps_set (i := 6) sc__law_together.nd rfl (by first | exact Or.inl rfl | exact Or.inr rfl) (pe_c1 G__law_pick (hr.mono (by decide)) (pa_cons (pv 0) (pa_cons (pe_lst (pa_cons pe_non (pa_cons pe_int (pa_cons (pe_callTy call_list_of (by rfl) fr.b_list (by decide +kernel) (pa_cons (pv 3) pa_nil)) (pa_cons (pe_op op_catA (pv 3) (pe_tup (pa_cons pe_int pa_nil))) (pa_cons (pe_op op_catA (pv 3) (pe_tup (pa_cons pe_non pa_nil))) (pa_cons pe_dnewK (pa_cons pe_str (pa_cons (pe_op op_catA (pv 3) (pe_tup (pa_cons pe_bl pa_nil))) pa_nil))))))))) pa_nil))))
  (pss_one (ps_ret (pe_cmpR op_eq (pe_lmT (k := 0) (Ng := ["_law_call"]) (c := 439) (P := 437) T__law_word sc__law_word rfl (by first | exact Or.inl rfl | exact Or.inr (Or.inl rfl)) (gv__law_word X_InvalidNumber E_InvalidNumber_InvalidNumber X_InvalidOperation E_InvalidOperation_InvalidNumber E_InvalidOperation_InvalidOperation hgd) TB__law_together rfl (hr.mono (by decide)) (LamX.lamS_by (sc := defScope (topS 41)) (by decide +kernel)) (fun A outer s H E f c' hr => (pe_cX (takes_of rfl rfl rfl rfl) R_have_one_root (hr.mono (by decide)) (pa_cons (pv 6) pa_nil)))) pe_str (nomark _))))))))), ?_⟩)
  refine fn_bodyDT (X := E0) (S := aNil) (E' := eNil) (R := rBl) (stt_dice (stt_un (stt_un (stt_un (stt_un (stt_un (stt_un stt_nil))))))) rfl (s_seq (s_asg (SN.se (n_lc (i_rng1 (e_roll get0 e_int)) (gw_name pu2) t_yes (e_pick get0 (SN.se (n_lst (hom_cons (hom_cons (hom_cons (hom_cons (hom_cons hom_nil))))) (a_cons e_int (a_cons e_int (a_cons e_int (a_cons e_int (a_cons e_int a_nil))))) (le_n 5)))))) (g_name pu1))
  (s_seq (s_asg (e_ca c_tupL (a_cons (SN.se (n_lc (i_ls (e_var gt1)) (gw_name pu4) t_yes (e_mkNumR e_int (e_ca c_intB (a_cons (e_op (o_ib fun _ _ => rfl) (e_var gt4) e_int) a_nil)) (e_var gt4)))) a_nil)) (g_name pu3))
  (s_seq (s_asg (e_lenSetJ (SN.se (n_lc (i_ls (e_var gt1)) (gw_name pu4) (t_of (e_op (o_ib fun _ _ => rfl) (e_var gt4) e_int)) (e_ca c_intI (a_cons (e_var gt4) a_nil))))) (g_name pu5))
  (s_seq (s_if (t_of (e_op (o_ne sc_str) (e_ca (c_repr (d := PyData.bool) dp_bl) (a_cons (e_call (a_cons (e_var gt3) a_nil)) a_nil)) (e_ca (c_repr (d := PyData.bool) dp_bl) (a_cons (e_op (o_ib fun _ _ => rfl) (e_var gt5) e_int) a_nil)))) (s_ret e_bl) s_nil)
  (s_seq (s_asg (e_pick get0 (SN.se (n_lst (hom_cons (hom_cons (hom_cons (hom_cons (hom_cons (hom_cons (hom_cons (hom_cons hom_nil)))))))) (a_cons (e_coeX (Rb := (rUn (rDt K) (rUn (rLs (rNum CN)) (rTup K (rUn (rDt K) (rNum CN)))))) coe_l (e_dat dp_non e_non)) (a_cons (e_coeX (Rb := (rUn (rDt K) (rUn (rLs (rNum CN)) (rTup K (rUn (rDt K) (rNum CN)))))) coe_l (e_dat dp_int e_int)) (a_cons (e_coeX (Rb := (rUn (rDt K) (rUn (rLs (rNum CN)) (rTup K (rUn (rDt K) (rNum CN)))))) coe_r (e_coeX (Rb := (rUn (rLs (rNum CN)) (rTup K (rUn (rDt K) (rNum CN))))) coe_l (SN.se (n_ca c_listT (a_cons (e_var gt3) a_nil))))) (a_cons (e_coeX (Rb := (rUn (rDt K) (rUn (rLs (rNum CN)) (rTup K (rUn (rDt K) (rNum CN)))))) coe_r (e_coeX (Rb := (rUn (rLs (rNum CN)) (rTup K (rUn (rDt K) (rNum CN))))) coe_r (e_op o_catT (e_coeX (Rb := (rTup K (rUn (rDt K) (rNum CN)))) (f := List.map (Sum.inr : Nm → (Sum PyData Nm))) (tup_map coe_r) (e_var gt3)) (e_coeX (Rb := (rTup K (rUn (rDt K) (rNum CN)))) (f := List.map (fun (z : Int) => Sum.inl (PyData.int z))) (tup_map (fun h => coe_l (dt_coe dp_int h))) (e_tupH (hom_cons hom_nil) (a_cons e_int a_nil) (le_n 1)))))) (a_cons (e_coeX (Rb := (rUn (rDt K) (rUn (rLs (rNum CN)) (rTup K (rUn (rDt K) (rNum CN)))))) coe_r (e_coeX (Rb := (rUn (rLs (rNum CN)) (rTup K (rUn (rDt K) (rNum CN))))) coe_r (e_op o_catT (e_coeX (Rb := (rTup K (rUn (rDt K) (rNum CN)))) (f := List.map (Sum.inr : Nm → (Sum PyData Nm))) (tup_map coe_r) (e_var gt3)) (e_coeX (Rb := (rTup K (rUn (rDt K) (rNum CN)))) (f := List.map (fun (z : Unit) => Sum.inl ((fun _ => PyData.none) z))) (tup_map (fun h => coe_l (dt_coe dp_non h))) (e_tupH (hom_cons hom_nil) (a_cons e_non a_nil) (le_n 1)))))) (a_cons (e_coeX (Rb := (rUn (rDt K) (rUn (rLs (rNum CN)) (rTup K (rUn (rDt K) (rNum CN)))))) coe_l (e_d0Dt e_dnew)) (a_cons (e_coeX (Rb := (rUn (rDt K) (rUn (rLs (rNum CN)) (rTup K (rUn (rDt K) (rNum CN)))))) coe_l (e_dat dp_str e_str)) (a_cons (e_coeX (Rb := (rUn (rDt K) (rUn (rLs (rNum CN)) (rTup K (rUn (rDt K) (rNum CN)))))) coe_r (e_coeX (Rb := (rUn (rLs (rNum CN)) (rTup K (rUn (rDt K) (rNum CN))))) coe_r (e_op o_catT (e_coeX (Rb := (rTup K (rUn (rDt K) (rNum CN)))) (f := List.map (Sum.inr : Nm → (Sum PyData Nm))) (tup_map coe_r) (e_var gt3)) (e_coeX (Rb := (rTup K (rUn (rDt K) (rNum CN)))) (f := List.map (fun (z : Bool) => Sum.inl (PyData.bool z))) (tup_map (fun h => coe_l (dt_coe dp_bl h))) (e_tupH (hom_cons hom_nil) (a_cons e_bl a_nil) (le_n 1)))))) a_nil)))))))) (le_n 8)))) (g_name pu6))
  (s_ret (e_op (o_eq sc_str) (e_lam (P := 437) (q := ((Str.ofString "_law_together") ++ (Str.ofString ".<locals>.") ++ (Str.ofString "<lambda>"))) (R := rStr) (mw := m__law_word) (List.mem_cons_of_mem _ (List.mem_cons_of_mem _ List.mem_cons_self)) (by decide +kernel) (hasTS (hasTS (hasTS (hasTS (hasTS (hasTS (hasTS hasT0))))))) (plv_un (plv_un (plv_un (plv_un (plv_un (plv_un (plv_val plv_tab))))))) (fun XE => (se_any (e_callF (fun _ => rfl) (sa_safe (a_cons (e_var gt6) a_nil)))))) e_str))))))) ?_
  exact h
end
end PF2
set_option maxHeartbeats 2000000
namespace PF
open PySem PySem.Spec PyProof.Rows L2
def TabsE (cs : List (Addr × Addr)) (h : Heap) : Prop := ∀ p ∈ cs, h.get? p.2 = some { cls := .none, data := .fields #[] }
def OnlyT (cs : List (Addr × Addr)) (G : Hp) : Prop := ∀ b, G b = none ∨ (∃ p ∈ cs, b = p.2) ∨ ∃ o xs, G b = some (.frz o (.lst xs))
theorem law_endT {P : Program} {w : World} {K : PySem.W.Frag} {mg mb : Str → Option Value} {k : Nat} {fa a : Addr} {sp : Sp} {st : Shared} {vs : List Value} {ns : List Int} {cs : List (Addr × Addr)}
    (KX : K.In st.heap) (g1 : st.heap.Ns mainGlobals mg) (g2 : st.heap.Ns builtinsNs mb) (g3 : ∀ x : Str, x ≠ "__name__" → mb x = bootBuiltins x) (lim : st.heap.NoLimit) (gn : st.gens = #[])
    (hT : TabsE cs st.heap) (nT : ∀ p ∈ cs, K.lookup p.2 = none) (hC : ∀ p ∈ cs, PySem.W.codeHdIn K p.1 p.2 = true)
    (hbm : ∃ (bm : Addr) (ob : Obj), mg "__builtins__" = some (.ref bm) ∧ bm ≠ builtinsNs ∧ st.heap.get? bm = some ob ∧ ob.cls = .type "module" ∧ ob.dict = some builtinsNs ∧ ob.data = .plain)
    (ha : st.heap.get? a = some { cls := .type "list", data := .seq vs.toArray }) (hi : IntsAre vs ns) (hl : ns.length ≤ sizeLine) (hr : Room k callerA)
    (F : ∀ base : Heap, K.In base → base.Ns mainGlobals mg → (∀ p ∈ cs, LamX.TabB base mg p.1 p.2) → FnG P w K mg base k fa 1 sp)
    (hsp : ∀ G : Hp, OnlyT cs G → (∀ p ∈ cs, G p.2 = some (.tbl #[])) → SqL K G a (ns.map V.int) → sp [.ref a] G (fun v _ => v = .bl true) E0) :
    codeAny (model P w) callerA (.call (.ref fa) ⟨[.ref a], []⟩) (fun r s' => r = .ok (.ret (.bool true)) ∧ OldK st.heap s'.heap ∧ s'.os = st.os ∧ AllBare s'.gens) st := by
  have rv := vals_ints hi
  have lv := hi.length
  have na : ∀ p ∈ cs, p.2 ≠ a := fun p hp z => by
    have e := hT p hp
    rw [z, ha] at e
    cases e
  have core : ∀ G : Hp, OnlyT cs G → (∀ p ∈ cs, G p.2 = some (.tbl #[])) → SqL K G a (ns.map V.int) → HOk P w G st.heap → (∀ b u, G b = some u → (b = a ∧ K.lookup a = none) ∨ ∃ p ∈ cs, b = p.2) →
      codeAny (model P w) callerA (.call (.ref fa) ⟨[.ref a], []⟩) (fun r s' => r = .ok (.ret (.bool true)) ∧ OldK st.heap s'.heap ∧ s'.os = st.os ∧ AllBare s'.gens) st := by
    intro G hO hG hS ok hA
    have free : ∀ b o, st.heap.get? b = some o → ((∀ n, o.data ≠ .seq vs.toArray n) ∧ o.data ≠ .fields #[]) ∨ K.lookup b = some o → G b = none := fun b o e z => by
      cases q : G b with
      | none => rfl
      | some u =>
        rcases hA b u q with ⟨rfl, hk⟩ | ⟨p, hp, rfl⟩
        · rcases z with z | z
          · rw [ha] at e; cases e; exact absurd rfl (z.1 _)
          · rw [hk] at z; cases z
        · rcases z with z | z
          · rw [hT p hp] at e; cases e; exact absurd rfl z.2
          · rw [nT p hp] at z; cases z
    have nsK : ∀ {b : Addr} {m : Str → Option Value}, st.heap.Ns b m → (hidT st.heap G).Ns b m := fun ⟨o, es, ep, e, d, r⟩ =>
      ⟨o, es, ep, hidT_get e (free _ o e (.inl ⟨fun n z => by rw [d] at z; (cases z), fun z => by rw [d] at z; (cases z)⟩)), d, r⟩
    have kb : K.In (hidT st.heap G) := fun b o e => hidT_get (KX b o e) (free b o (KX b o e) (.inr e))
    have M : Mod K mg (hidT st.heap G) := ⟨kb, nsK g1, ⟨mb, nsK g2, g3⟩, let ⟨mc, h1, h2⟩ := lim; ⟨mc, nsK h1, h2⟩⟩
    have TB : ∀ p ∈ cs, LamX.TabB (hidT st.heap G) mg p.1 p.2 := fun p hp => by
      refine ⟨PySem.W.codeHd_of_K kb (hC p hp), ?_, fun z => ?_⟩
      · obtain ⟨bm, ob, b1, b2, b3, b4, b5, b6⟩ := hbm
        have nG : bm ≠ mainGlobals := fun q => by
          obtain ⟨o, es, ep, e, d, _⟩ := g1
          rw [← q, b3] at e
          cases e
          rw [b6] at d
          cases d
        have nP : bm ≠ p.2 := fun q => by
          rw [q, hT p hp] at b3
          cases b3
          cases b6
        exact ⟨bm, ob, b1, b2, nG, nP, hidT_get b3 (free _ _ b3 (.inl ⟨fun n z => by rw [b6] at z; (cases z), fun z => by rw [b6] at z; (cases z)⟩)), b4, b5, b6⟩
      · obtain ⟨o, es, ep, e, d, _⟩ := g1
        rw [z, hT p hp] at e
        cases e
        cases d
    have e0 : Env0 P w K mg (hidT st.heap G) callerA [] st G := ⟨rfl, M, fun b o e => of_hidT e, Nat.le_of_eq (hidT_size _ _), trivial, fun b hb => (nomatch (show b ∈ ([] : List Addr) from hb)), ok, .of_eq gn⟩
    refine codeAny_mono (F _ kb (nsK g1) TB callerA [] st G [.ref a] [.ref a] _ rfl hr e0 rfl (.cons rfl .nil) (hsp G hO hG hS)) fun rr s' h => ?_
    cases rr with
    | error e => exact h.elim
    | ok fl => cases fl with
      | next => exact h.elim
      | brk => exact h.elim
      | cont => exact h.elim
      | ret u =>
        obtain ⟨v, G', os, bare, un, ok', r', q⟩ := h
        subst q
        obtain rfl : u = Value.bool true := r'
        have tabs : ∀ p ∈ cs, ∃ more : Array Value, s'.heap.get? p.2 = some { cls := .none, data := .fields more } := fun p hp => by
          obtain ⟨more, z⟩ := un.tbls p.2 #[] (hG p hp)
          exact ⟨_, ok' p.2 _ z⟩
        have rest : ∀ b o, (¬ ∃ p ∈ cs, b = p.2) → st.heap.get? b = some o → s'.heap.get? b = some o := fun b o nb e => by
          rcases hO b with z | z | ⟨ob, xs, z⟩
          · exact un.keep b o e z (fun y => (nomatch (show b ∈ ([] : List Addr) from y))) (by simp)
          · exact absurd z nb
          · obtain ⟨e1, _⟩ := ok b _ z
            obtain ⟨e2, _⟩ := ok' b _ (un.frzs b ob _ z)
            rw [e] at e1; cases e1; exact e2
        refine ⟨rfl, ⟨fun b o e => ?_, fun b o e => ?_⟩, os, bare⟩
        · by_cases hb : ∃ p ∈ cs, b = p.2
          · obtain ⟨p, hp, rfl⟩ := hb
            obtain ⟨more, hm⟩ := tabs p hp
            have e' := hT p hp
            rw [e] at e'
            cases e'
            exact .inr (.inl ⟨((PySem.W.codeHd_of_K KX (hC p hp)).tab (hT p hp)).isCodeTable, rfl, #[], more, rfl, by rw [Array.empty_append]; exact hm⟩)
          · exact .inl (rest b o hb e)
        · by_cases hb : ∃ p ∈ cs, b = p.2
          · obtain ⟨p, hp, rfl⟩ := hb
            obtain ⟨more, hm⟩ := tabs p hp
            exact ⟨_, hm⟩
          · exact ⟨o, rest b o hb e⟩
  cases hk : K.lookup a with
  | some o =>
    have e := KX a o hk
    rw [ha] at e; cases e
    classical
    refine core (fun b => if ∃ p ∈ cs, b = p.2 then some (.tbl #[]) else none) (fun b => ?_) (fun p hp => if_pos ⟨p, hp, rfl⟩) (.inr ⟨_, vs.toArray, _, hk, rfl, rfl, rfl, by rw [List.size_toArray, lv]; exact hl, by simpa using rv⟩) (fun b u z => ?_) fun b u z => ?_
    · by_cases y : ∃ p ∈ cs, b = p.2
      · exact .inr (.inl y)
      · exact .inl (if_neg y)
    · by_cases y : ∃ p ∈ cs, b = p.2
      · have z' := (if_pos y).symm.trans z
        cases z'
        obtain ⟨p, hp, rfl⟩ := y
        exact hT p hp
      · have z' := (if_neg y).symm.trans z
        cases z'
    · by_cases y : ∃ p ∈ cs, b = p.2
      · exact .inr y
      · have z' := (if_neg y).symm.trans z
        cases z'
  | none =>
    classical
    refine core (fun b => if b = a then some (.frz { cls := .type "list", data := .seq vs.toArray } (.lst (ns.map V.int))) else if ∃ p ∈ cs, b = p.2 then some (.tbl #[]) else none) (fun b => ?_) (fun p hp => (if_neg (na p hp)).trans (if_pos ⟨p, hp, rfl⟩)) (.inl (.inr ⟨{ cls := .type "list", data := .seq vs.toArray }, if_pos rfl⟩)) (fun b u z => ?_) fun b u z => ?_
    · by_cases y : b = a
      · exact .inr (.inr ⟨_, _, if_pos y⟩)
      · by_cases y2 : ∃ p ∈ cs, b = p.2
        · exact .inr (.inl y2)
        · exact .inl ((if_neg y).trans (if_neg y2))
    · by_cases y : b = a
      · have z' := (if_pos y).symm.trans z
        cases z'; subst y
        exact ⟨ha, by rw [List.length_map]; exact hl, vs, _, rv, ha⟩
      · have z1 := (if_neg y).symm.trans z
        by_cases y2 : ∃ p ∈ cs, b = p.2
        · have z' := (if_pos y2).symm.trans z1
          cases z'
          obtain ⟨p, hp, rfl⟩ := y2
          exact hT p hp
        · have z' := (if_neg y2).symm.trans z1
          cases z'
    · by_cases y : b = a
      · exact .inl ⟨y, hk⟩
      · have z1 := (if_neg y).symm.trans z
        by_cases y2 : ∃ p ∈ cs, b = p.2
        · exact .inr y2
        · have z' := (if_neg y2).symm.trans z1
          cases z'
theorem walk_gT {l : PySem.W.OpenLaw} {n k : Nat} {q : Program} {loose : List Str} {XP : (Str → Option Value) → Heap → Prop} {YP : World → Heap → Prop} {d : DefRec} {cs : List (Addr × Addr)}
    (hn : l.most = some n) (hn2 : n ≤ sizeLine) (hdf : d.params.defaults = []) (hr : Room k callerA)
    (F : ∀ (w : World) (mg : Str → Option Value) (fa : Addr) (h : Heap), YP w h → h.Ns mainGlobals mg → mg d.name = some (.ref fa) →
      ∃ (K : PySem.W.Frag) (sp : Sp), K.In h ∧ TabsE cs h ∧ (∀ p ∈ cs, K.lookup p.2 = none) ∧ (∀ p ∈ cs, PySem.W.codeHdIn K p.1 p.2 = true) ∧
        (∀ (G : Hp) (a : Addr) (ns : List Int), ns.length ≤ n → OnlyT cs G → (∀ p ∈ cs, G p.2 = some (.tbl #[])) → SqL K G a (ns.map V.int) → sp [.ref a] G (fun v _ => v = .bl true) E0) ∧
        ∀ base : Heap, K.In base → base.Ns mainGlobals mg → (∀ p ∈ cs, LamX.TabB base mg p.1 p.2) → FnG l.prog w K mg base k fa 1 sp) :
    PySem.W.WalkO q loose XP YP l.row.toRowW d [] (fun f vs => PySem.call f vs) := by
  refine Att.attach_call hn hdf fun w _ s1 mg mb fa _ _ _ _ a vs ns Gr Y _ _ _ hmg hobj hints hlen hg => ?_
  obtain ⟨K, sp, KX, hT, nT, hC, hsp, hF⟩ := F w mg fa _ Y Gr.T.g hmg
  exact law_endT KX Gr.T.g Gr.T.b Gr.T.builtins Gr.T.nolimit hg hT nT hC Gr.T.bmain hobj hints (Nat.le_trans hlen hn2) hr hF fun G hO hG hS => hsp G a ns hlen hO hG hS
end PF
set_option maxHeartbeats 4000000
namespace PF2
open PF PySem PySem.Spec PyProof.Rows L2 SlX
section
variable {P : Program} {w : World} {K : PySem.W.Frag} {mg : Str → Option Value} {base : Heap} {f CO CN CF CE : Addr} {fd : FuncData}
theorem sc_law : FnScope ["_law_script", "_law_spot", "_law_dice_here"] ["_law_script"] (defScope (topS 42)) := ⟨rfl, rfl, rfl, by decide +kernel, rfl, by decide +kernel, by decide +kernel⟩
noncomputable def b_law (ρ : (Unit × (Unit × (Unit × Unit)))) : M (Ct Unit Unit Bool) := (M.bind (M.bind (M.bind (M.ret (999 : Int)) fun x1 => M.bind (M.ret (999 : Int)) fun x2 => M.ret (decide (x1 = x2))) fun x8 => M.ifb x8 (M.bind (M.bind (M.bind (M.bind (M.ret ([] : (List Nm))) fun x => M.need (x.length ≤ sizeLine) (M.ret x)) fun x3 => M.bind (M.ret ()) fun x4 => M.ret (x3, x4)) fun r5 => M.still (m_have_one_root r5)) fun x6 => M.bind (M.ret true) fun x7 => M.ret (decide (x6 = x7))) (M.ret false)) fun x9 => M.ret (.rt x9))
noncomputable def m_law : M Bool := M.fin (b_law ((), ((), ((), ()))))
noncomputable def b_lawB (ρ : ((List Int) × (Unit × (Unit × Unit)))) : M (Ct ((List Int) × (Unit × (Unit × Unit))) Unit Bool) := (M.thn (M.bind (M.bind (M.bind (M.bind (M.ret ()) fun r10 => m__law_makes r10) fun x11 => M.ret (!x11)) fun x17 => M.ifb x17 (M.ret true) (M.bind (M.bind (M.bind (M.ret ()) fun r12 => m__law_reckons r12) fun x13 => M.ret (!x13)) fun x16 => M.ifb x16 (M.ret true) (M.bind (M.bind (M.ret ()) fun r14 => m__law_together r14) fun x15 => M.ret (!x15)))) fun x19 => M.ifb x19 (M.bind (M.ret false) fun x18 => M.ret (.rt x18)) (M.ret (.nx ρ))) fun ρ => M.ret (.nx (ρ.1, ρ.2.1, (), ρ.2.2.2)))
end
end PF2
set_option maxHeartbeats 1000000
namespace PF2
open PF PySem PySem.Spec PyProof.Rows L2 SlX
section
variable {c : Nat} {X : Er → Prop}
def whV : OVt → Bool
  | .inl (.int _) => true
  | _ => false
theorem w_is_whole {u : OVt} {Q : Bool → Nat → Prop} (q : Q (whV u) c) : M.W (m_is_whole_V (u, ())) c Q X := by
  simp only [m_is_whole_V, b_is_whole_V, M.to_W, M.none_W, M.bind_W, M.ret_W, M.need_W, M.the_W, M.ifb_W, M.anyOf_W, M.still_W, M.roll_W, M.pick_W, M.thn_W, M.thn_nx, M.thn_rt, M.thn_bk, M.thn_ct, M.fin_W, M.fin_rt, M.finN_W, M.finN_rt, M.finN_nx, M.FK_nx, M.FK_ct, M.FK_bk, M.FK_rt, decide_eq_true_eq, if_true, if_false, Bool.false_eq_true, Bool.not_eq_true', decide_eq_false_iff_not, Bool.not_true, Bool.not_false, ite_not]
  cases u with
  | inl d => cases d <;> exact q
  | inr n => exact q
theorem sum_ff {α β : Type} {t : α ⊕ β} {b : Bool} {Q : Bool → Nat → Prop} (q : Q b c) : M.W (sumE (fun _ => M.ret b) (fun _ => M.ret b) t) c Q X := by cases t <;> exact q
structure BadN (t p r b : OVt) : Prop where
  bad : whV t = false ∨ whV p = false ∨ whV b = false ∨ b = iOV 0 ∨ whV r = false ∨ (∃ i, r = iOV i ∧ i ≠ 0 ∧ isRootB i = false) ∨ (r = iOV 0 ∧ ∃ i, p = iOV i ∧ i ≠ 0)
theorem whV_int {u : OVt} (h : whV u = true) : ∃ i, u = iOV i := by
  cases u with
  | inl d => cases d <;> first | exact ⟨_, rfl⟩ | cases h
  | inr n => cases h
theorem w_form_in {t p r b : OVt} {Q : Unit → Nat → Prop} (h : BadN t p r b) (x : X ⟨"InvalidNumber", .none⟩) : M.W (m_form_in_X (t, p, r, b, ())) c Q X := by
  have ew := fun (u : OVt) (c : Nat) (Q : Bool → Nat → Prop) => w_is_whole (u := u) (c := c) (X := fun _ => False) (Q := Q)
  simp only [m_form_in_X, b_form_in_X, M.to_W, M.none_W, M.bind_W, M.ret_W, M.need_W, M.the_W, M.ifb_W, M.anyOf_W, M.still_W, M.roll_W, M.pick_W, M.thn_W, M.thn_nx, M.thn_rt, M.thn_bk, M.thn_ct, M.fin_W, M.fin_rt, M.finN_W, M.finN_rt, M.finN_nx, M.FK_nx, M.FK_ct, M.FK_bk, M.FK_rt, decide_eq_true_eq, if_true, if_false, Bool.false_eq_true, Bool.not_eq_true', decide_eq_false_iff_not, Bool.not_true, Bool.not_false, ite_not, M.safe_W, M.raise_W]
  refine sum_ff ((if_neg (by decide)).mpr (ew _ _ _ ?_))
  obtain ⟨h⟩ := h
  cases ht : whV t with
  | false => exact (if_pos rfl).mpr x
  | true =>
    refine (if_neg (by decide)).mpr (ew _ _ _ ?_)
    cases hp : whV p with
    | false => exact (if_pos rfl).mpr x
    | true =>
      refine (if_neg (by decide)).mpr (ew _ _ _ ?_)
      cases hb : whV b with
      | false => exact (if_pos rfl).mpr x
      | true =>
        obtain ⟨b', rfl⟩ := whV_int hb
        refine (if_neg (by decide)).mpr ⟨_, rfl, _, rfl, ?_⟩
        by_cases b0 : b' = 0
        · rw [if_pos b0]; exact x
        · rw [if_neg b0]
          refine ew _ _ _ ?_
          cases hr : whV r with
          | false => exact (if_pos rfl).mpr x
          | true =>
            obtain ⟨r', rfl⟩ := whV_int hr
            obtain ⟨p', rfl⟩ := whV_int hp
            refine (if_neg (by decide)).mpr ⟨_, rfl, _, rfl, ?_⟩
            rcases h with h | h | h | h | h | ⟨i, h, i0, ri⟩ | ⟨h, i, hi, i0⟩
            · rw [h] at ht; cases ht
            · rw [h] at hp; cases hp
            · rw [h] at hb; cases hb
            · exact absurd (PyData.int.inj (Sum.inl.inj h)) b0
            · rw [h] at hr; cases hr
            · obtain rfl : r' = i := PyData.int.inj (Sum.inl.inj h)
              rw [if_neg i0]
              refine ⟨_, rfl, _, rfl, ?_⟩
              rw [if_pos ri]; exact x
            · obtain rfl : r' = 0 := PyData.int.inj (Sum.inl.inj h)
              obtain rfl : p' = i := PyData.int.inj (Sum.inl.inj hi)
              rw [if_pos rfl]
              refine ⟨_, rfl, _, rfl, ?_⟩
              rw [if_pos rfl]
              refine ⟨_, rfl, _, rfl, ?_⟩
              rw [if_neg i0]; exact x
theorem w_init {t p r b : OVt} {Q : Unit → Nat → Prop} (h : BadN t p r b) (x : X ⟨"InvalidNumber", .none⟩) : M.W (m_Number___init___X ((), t, p, r, b, ())) c Q X := by
  have ew := fun (c : Nat) (Q : Unit → Nat → Prop) => w_form_in (t := t) (p := p) (r := r) (b := b) (c := c) (X := X) (Q := Q) h x
  simp only [m_Number___init___X, b_Number___init___X, M.to_W, M.none_W, M.bind_W, M.ret_W, M.need_W, M.the_W, M.ifb_W, M.anyOf_W, M.still_W, M.roll_W, M.pick_W, M.thn_W, M.thn_nx, M.thn_rt, M.thn_bk, M.thn_ct, M.fin_W, M.fin_rt, M.finN_W, M.finN_rt, M.finN_nx, M.FK_nx, M.FK_ct, M.FK_bk, M.FK_rt, decide_eq_true_eq, if_true, if_false, Bool.false_eq_true, Bool.not_eq_true', decide_eq_false_iff_not, Bool.not_true, Bool.not_false, ite_not, M.safe_W]
  exact ew _ _
def badB (u : OVt) : Bool := !whV u || match u with
  | .inl (.int i) => decide (i ≠ 0) && !isRootB i
  | _ => false
theorem w_wrong {way : Int} {odd root : OVt} {Q : Unit → Nat → Prop} (ho : whV odd = false) (hr : badB root = true) (x : X ⟨"InvalidNumber", .none⟩) : M.W (m__law_wrong_X (way, odd, root, ())) c Q X := by
  have ei := fun (t p r b : OVt) (c : Nat) (Q : Unit → Nat → Prop) (h : BadN t p r b) => w_init (c := c) (X := X) (Q := Q) h x
  have hr' : whV root = false ∨ ∃ i, root = iOV i ∧ i ≠ 0 ∧ isRootB i = false := by
    unfold badB at hr
    rcases Bool.or_eq_true _ _ ▸ hr with h | h
    · exact .inl (by simpa using h)
    · right
      cases root with
      | inl d => cases d with
        | int i =>
          rw [Bool.and_eq_true, decide_eq_true_eq] at h
          exact ⟨i, rfl, h.1, by simpa using h.2⟩
        | _ => cases h
      | inr n => cases h
  have hB : ∀ t p b, BadN t p root b := fun t p b => ⟨hr'.elim (fun h => .inr (.inr (.inr (.inr (.inl h))))) fun h => .inr (.inr (.inr (.inr (.inr (.inl h)))))⟩
  simp only [m__law_wrong_X, b__law_wrong_X, M.to_W, M.none_W, M.bind_W, M.ret_W, M.need_W, M.the_W, M.ifb_W, M.anyOf_W, M.still_W, M.roll_W, M.pick_W, M.thn_W, M.thn_nx, M.thn_rt, M.thn_bk, M.thn_ct, M.fin_W, M.fin_rt, M.finN_W, M.finN_rt, M.finN_nx, M.FK_nx, M.FK_ct, M.FK_bk, M.FK_rt, decide_eq_true_eq, if_true, if_false, Bool.false_eq_true, Bool.not_eq_true', decide_eq_false_iff_not, Bool.not_true, Bool.not_false, ite_not, M.safe_W, jN1, jN2, jNR, jNB, jNK]
  split
  · exact ei _ _ _ _ _ _ ⟨.inl ho⟩
  split
  · exact ei _ _ _ _ _ _ ⟨.inr (.inl ho)⟩
  split
  · exact ei _ _ _ _ _ _ ⟨.inr (.inr (.inl ho))⟩
  split
  · exact ei _ _ _ _ _ _ ⟨.inr (.inr (.inr (.inl rfl)))⟩
  split
  · exact ei _ _ _ _ _ _ ⟨.inr (.inr (.inr (.inr (.inr (.inr ⟨rfl, 1, rfl, by decide⟩)))))⟩
  split
  · exact ei _ _ _ _ _ _ (hB _ _ _)
  split
  · exact ei _ _ _ _ _ _ (hB _ _ _)
  · exact ei _ _ _ _ _ _ ⟨.inl ho⟩
def Says (c : Nat) (Q : Str → Nat → Prop) (e : Er) : Prop := (e.cls = "InvalidNumber" ∧ Q "number" c) ∨ (e.cls = "InvalidOperation" ∧ Q "operation" c)
theorem w_word {th : M Unit} {Q : Str → Nat → Prop} (h : M.W th 0 (fun _ _ => Q "fine" c) (Says c Q)) : M.W (m__law_word th) c Q X := by
  simp only [m__law_word, b__law_word, M.to_W, M.none_W, M.bind_W, M.ret_W, M.need_W, M.the_W, M.ifb_W, M.anyOf_W, M.still_W, M.roll_W, M.pick_W, M.thn_W, M.thn_nx, M.thn_rt, M.thn_bk, M.thn_ct, M.fin_W, M.fin_rt, M.finN_W, M.finN_rt, M.finN_nx, M.FK_nx, M.FK_ct, M.FK_bk, M.FK_rt, decide_eq_true_eq, if_true, if_false, Bool.false_eq_true, Bool.not_eq_true', decide_eq_false_iff_not, Bool.not_true, Bool.not_false, ite_not, M.tryM_W, M.byE_W]
  refine th.mono 0 (fun _ _ z => z) (fun e z => ?_) h
  rcases z with ⟨e1, q⟩ | ⟨e1, q⟩
  · exact .inl ⟨by rw [e1]; simp, q⟩
  · exact .inr ⟨by rw [e1]; simp, .inl ⟨by rw [e1]; simp, q⟩⟩
theorem w_word_n {th : M Unit} {Q : Str → Nat → Prop} (h : ∀ (Q : Unit → Nat → Prop) (X : Er → Prop), X ⟨"InvalidNumber", .none⟩ → M.W th 0 Q X) (q : Q "number" c) : M.W (m__law_word th) c Q X := w_word (h _ _ (.inl ⟨rfl, q⟩))
theorem w_word_o {th : M Unit} {Q : Str → Nat → Prop} (h : ∀ (Q : Unit → Nat → Prop) (X : Er → Prop), X ⟨"InvalidOperation", .none⟩ → M.W th 0 Q X) (q : Q "operation" c) : M.W (m__law_word th) c Q X := w_word (h _ _ (.inr ⟨rfl, q⟩))
theorem w_word_f {th : M Unit} {Q : Str → Nat → Prop} (h : ∀ (Q : Unit → Nat → Prop) (X : Er → Prop), Q () 0 → M.W th 0 Q X) (q : Q "fine" c) : M.W (m__law_word th) c Q X := w_word (h _ _ q)
def okRB (u : OVt) : Bool := match u with
  | .inl z => !neD z || z.canLay0 && decide (z.depth ≤ 64) && (z.eqv (.int 0) || badB u)
  | .inr _ => true
theorem w_eq0 {root : OVt} {Q : Bool → Nat → Prop} (h : okRB root = true) (q : ∀ b, (b = false → badB root = true) → Q b c) : M.W (sumE (fun z => M.need (neD z = true → (z.canLay0 = true ∧ z.depth ≤ 64)) (M.ret (neD z && PyData.eqv z (.int 0)))) (fun _ => M.ret false) root) c Q X := by
  cases root with
  | inl z =>
    have h : (!neD z || z.canLay0 && decide (z.depth ≤ 64) && (z.eqv (.int 0) || badB (.inl z))) = true := h
    cases e : neD z with
    | false => 
      refine ⟨fun k => (Bool.noConfusion (e.symm.trans k)), q _ fun _ => ?_⟩
      rw [neD_eq e]; rfl
    | true =>
      rw [e, Bool.not_true, Bool.false_or, Bool.and_eq_true, Bool.and_eq_true, decide_eq_true_eq] at h
      refine ⟨fun _ => h.1, q _ fun e2 => ?_⟩
      have h2 := h.2
      rw [e, Bool.true_and] at e2
      rw [e2, Bool.false_or] at h2
      exact h2
  | inr n => exact q _ fun _ => rfl
def oddL : List OVt := [.inl .none, .inl (.bool true), .inl (.bool false), .inl (.str "1"), .inl (.tuple [.int 1]), .inl (.list [.int 2]), .inl (.dict []), .inr (mkNm 1 0 0 1), .inl (.str "")]
def rootL (x : OVt) : List OVt := [.inl .none, .inl (.bool true), iOV 1, iOV 4, iOV 8, iOV 12, iOV 1000, iOV 1009, iOV (-2), .inl (.str "2"), .inl (.tuple [.int 2]), iOV 49, iOV 980, iOV (10 ^ Int.toNat 30), x]
theorem oddL_ok : oddL.all (fun x => !whV x && (rootL x).all okRB) = true := by decide +kernel
theorem w_makes {Q : Bool → Nat → Prop} (hc : c < 6000) (q : ∀ d, d ≤ c + 3 → Q true d) : M.W (m__law_makes ()) c Q X := by
  have ew := fun (way : Int) (odd root : OVt) (c : Nat) (Q : Str → Nat → Prop) (ho : whV odd = false) (hr : badB root = true) (th : M Unit) (et : th = (((M.ret way).bind fun x126 => ((M.ret odd).bind fun x124 => ((M.ret root).bind fun x25 => (M.ret ()).bind fun x26 => M.ret (x25, x26)).bind fun x125 => M.ret (x124, x125)).bind fun x127 => M.ret (x126, x127)).safe.bind fun r128 => (m__law_wrong_X r128).still).bind fun x129 => M.ret ()) (q : Q "number" c) => w_word_n (th := th) (c := c) (X := X) (Q := Q) (fun Q X x => by
    subst et
    simp only [M.to_W, M.none_W, M.bind_W, M.ret_W, M.need_W, M.the_W, M.ifb_W, M.anyOf_W, M.still_W, M.roll_W, M.pick_W, M.thn_W, M.thn_nx, M.thn_rt, M.thn_bk, M.thn_ct, M.fin_W, M.fin_rt, M.finN_W, M.finN_rt, M.finN_nx, M.FK_nx, M.FK_ct, M.FK_bk, M.FK_rt, decide_eq_true_eq, if_true, if_false, Bool.false_eq_true, Bool.not_eq_true', decide_eq_false_iff_not, Bool.not_true, Bool.not_false, ite_not, M.safe_W]
    exact w_wrong ho hr x) q
  simp only [m__law_makes, b__law_makes, M.to_W, M.none_W, M.bind_W, M.ret_W, M.need_W, M.the_W, M.ifb_W, M.anyOf_W, M.still_W, M.roll_W, M.pick_W, M.thn_W, M.thn_nx, M.thn_rt, M.thn_bk, M.thn_ct, M.fin_W, M.fin_rt, M.finN_W, M.finN_rt, M.finN_nx, M.FK_nx, M.FK_ct, M.FK_bk, M.FK_rt, decide_eq_true_eq, if_true, if_false, Bool.false_eq_true, Bool.not_eq_true', decide_eq_false_iff_not, Bool.not_true, Bool.not_false, ite_not]
  refine ⟨by omega, by decide, by decide, fun odd ho => ⟨⟨by decide, by decide, by decide⟩, by omega, Nat.succ_pos _, (by decide : (15 : Nat) ≤ 1000), fun root hr => ?_⟩⟩
  have hl := List.all_eq_true.mp oddL_ok odd ho
  rw [Bool.and_eq_true, List.all_eq_true] at hl
  have ho2 : whV odd = false := by simpa using hl.1
  have hr2 := hl.2 root hr
  refine w_eq0 hr2 fun b hb => ?_
  have tail : ∀ x ∈ ([2, 3, 5, 6, 7, 10, 997, 998, 994] : List Int), ((-4 : Int) ≠ 0 ∧ okRoot x (-2) ∧ Bd 9000 (-4)) ∧ okRoot x 0 ∧ ((PyData.list (List.map PyData.int [(mkNm 0 (-2) x (-4)).t, (mkNm 0 (-2) x (-4)).p, (mkNm 0 (-2) x (-4)).r, (mkNm 0 (-2) x (-4)).b, (mkNm 1 0 x 1).r])).canLay0 = true ∧ (PyData.list (List.map PyData.int [0, 1, x, 2, 0])).canLay0 = true) ∧ ((PyData.list (List.map PyData.int [(mkNm 0 (-2) x (-4)).t, (mkNm 0 (-2) x (-4)).p, (mkNm 0 (-2) x (-4)).r, (mkNm 0 (-2) x (-4)).b, (mkNm 1 0 x 1).r])).eqv (PyData.list (List.map PyData.int [0, 1, x, 2, 0]))) = true := by
    have e : ([2, 3, 5, 6, 7, 10, 997, 998, 994] : List Int).all (fun x => isRootB x && ((PyData.list (List.map PyData.int [(mkNm 0 (-2) x (-4)).t, (mkNm 0 (-2) x (-4)).p, (mkNm 0 (-2) x (-4)).r, (mkNm 0 (-2) x (-4)).b, (mkNm 1 0 x 1).r])).canLay0 && ((PyData.list (List.map PyData.int [0, 1, x, 2, 0])).canLay0 && (PyData.list (List.map PyData.int [(mkNm 0 (-2) x (-4)).t, (mkNm 0 (-2) x (-4)).p, (mkNm 0 (-2) x (-4)).r, (mkNm 0 (-2) x (-4)).b, (mkNm 1 0 x 1).r])).eqv (PyData.list (List.map PyData.int [0, 1, x, 2, 0]))))) = true := by decide +kernel
    intro x hx
    have := List.all_eq_true.mp e x hx
    rw [Bool.and_eq_true, Bool.and_eq_true, Bool.and_eq_true] at this
    obtain ⟨r, k1, k2, k3⟩ := this
    exact ⟨⟨by decide, .inr r, bd_sm (by decide) (by decide)⟩, .inr r, ⟨k1, k2⟩, k3⟩
  cases b with
  | true =>
    rw [if_pos rfl]
    have h4 : badB (Sum.inl (PyData.int 4)) = true := by decide +kernel
    refine ⟨by decide, M.forM_inv (fun i σ e => e = c + 1 + 1 ∧ σ.2.1 = odd ∧ badB σ.2.2.1 = true) ⟨rfl, rfl, h4⟩ ?_ ?_⟩
    · rintro i v ⟨y1, y2, y3, y4, y5, y6, y7⟩ d' hi ⟨rfl, f1, f2⟩
      dsimp only at f1 f2
      subst f1
      simp only [M.to_W, M.none_W, M.bind_W, M.ret_W, M.need_W, M.the_W, M.ifb_W, M.anyOf_W, M.still_W, M.roll_W, M.pick_W, M.thn_W, M.thn_nx, M.thn_rt, M.thn_bk, M.thn_ct, M.fin_W, M.fin_rt, M.finN_W, M.finN_rt, M.finN_nx, M.FK_nx, M.FK_ct, M.FK_bk, M.FK_rt, decide_eq_true_eq, if_true, if_false, Bool.false_eq_true, Bool.not_eq_true', decide_eq_false_iff_not, Bool.not_true, Bool.not_false, ite_not]
      refine ew _ _ _ _ _ ho2 f2 _ rfl ?_
      exact (if_pos rfl).mpr ⟨by trivial, by trivial, f2⟩
    · rintro ⟨y1, y2, y3, y4, y5, y6, y7⟩ d' ⟨rfl, f1, f2⟩
      simp only [M.to_W, M.none_W, M.bind_W, M.ret_W, M.need_W, M.the_W, M.ifb_W, M.anyOf_W, M.still_W, M.roll_W, M.pick_W, M.thn_W, M.thn_nx, M.thn_rt, M.thn_bk, M.thn_ct, M.fin_W, M.fin_rt, M.finN_W, M.finN_rt, M.finN_nx, M.FK_nx, M.FK_ct, M.FK_bk, M.FK_rt, decide_eq_true_eq, if_true, if_false, Bool.false_eq_true, Bool.not_eq_true', decide_eq_false_iff_not, Bool.not_true, Bool.not_false, ite_not]
      refine ⟨by omega, by decide, by decide, fun x hx => ?_⟩
      obtain ⟨k1, k2, k3, k4⟩ := tail x hx
      refine ⟨k1, k2, k3, ?_⟩
      rw [k4]
      exact q _ (by omega)
  | false =>
    rw [if_neg (by decide)]
    have h4 : badB root = true := hb rfl
    refine ⟨by decide, M.forM_inv (fun i σ e => e = c + 1 + 1 ∧ σ.2.1 = odd ∧ badB σ.2.2.1 = true) ⟨rfl, rfl, h4⟩ ?_ ?_⟩
    · rintro i v ⟨y1, y2, y3, y4, y5, y6, y7⟩ d' hi ⟨rfl, f1, f2⟩
      dsimp only at f1 f2
      subst f1
      simp only [M.to_W, M.none_W, M.bind_W, M.ret_W, M.need_W, M.the_W, M.ifb_W, M.anyOf_W, M.still_W, M.roll_W, M.pick_W, M.thn_W, M.thn_nx, M.thn_rt, M.thn_bk, M.thn_ct, M.fin_W, M.fin_rt, M.finN_W, M.finN_rt, M.finN_nx, M.FK_nx, M.FK_ct, M.FK_bk, M.FK_rt, decide_eq_true_eq, if_true, if_false, Bool.false_eq_true, Bool.not_eq_true', decide_eq_false_iff_not, Bool.not_true, Bool.not_false, ite_not]
      refine ew _ _ _ _ _ ho2 f2 _ rfl ?_
      exact (if_pos rfl).mpr ⟨by trivial, by trivial, f2⟩
    · rintro ⟨y1, y2, y3, y4, y5, y6, y7⟩ d' ⟨rfl, f1, f2⟩
      simp only [M.to_W, M.none_W, M.bind_W, M.ret_W, M.need_W, M.the_W, M.ifb_W, M.anyOf_W, M.still_W, M.roll_W, M.pick_W, M.thn_W, M.thn_nx, M.thn_rt, M.thn_bk, M.thn_ct, M.fin_W, M.fin_rt, M.finN_W, M.finN_rt, M.finN_nx, M.FK_nx, M.FK_ct, M.FK_bk, M.FK_rt, decide_eq_true_eq, if_true, if_false, Bool.false_eq_true, Bool.not_eq_true', decide_eq_false_iff_not, Bool.not_true, Bool.not_false, ite_not]
      refine ⟨by omega, by decide, by decide, fun x hx => ?_⟩
      obtain ⟨k1, k2, k3, k4⟩ := tail x hx
      refine ⟨k1, k2, k3, ?_⟩
      rw [k4]
      exact q _ (by omega)
end
section
variable {c : Nat} {X : Er → Prop}
def numV : OVt → Option Nm
  | .inl (.int i) => some (mkNm i 0 0 1)
  | .inl _ => none
  | .inr n => some n
def isN : OVt → Bool
  | .inl _ => false
  | .inr _ => true
theorem sum_ft {u : OVt} {Q : Bool → Nat → Prop} (q : Q (isN u) c) : M.W (sumE (fun _ => M.ret false) (fun _ => M.ret true) u) c Q X := by cases u <;> exact q
theorem w_like {u : OVt} {Q : Bool → Nat → Prop} (q : Q (numV u).isSome c) : M.W (m_is_like_number_V (u, ())) c Q X := by
  have ew := fun (u : OVt) (c : Nat) (Q : Bool → Nat → Prop) => w_is_whole (u := u) (c := c) (X := X) (Q := Q)
  simp only [m_is_like_number_V, b_is_like_number_V, M.to_W, M.none_W, M.bind_W, M.ret_W, M.need_W, M.the_W, M.ifb_W, M.anyOf_W, M.still_W, M.roll_W, M.pick_W, M.thn_W, M.thn_nx, M.thn_rt, M.thn_bk, M.thn_ct, M.fin_W, M.fin_rt, M.finN_W, M.finN_rt, M.finN_nx, M.FK_nx, M.FK_ct, M.FK_bk, M.FK_rt, decide_eq_true_eq, if_true, if_false, Bool.false_eq_true, Bool.not_eq_true', decide_eq_false_iff_not, Bool.not_true, Bool.not_false, ite_not]
  refine sum_ft ?_
  cases u with
  | inl d =>
    refine (if_neg Bool.false_ne_true).mpr (ew _ _ _ ?_)
    cases d <;> exact q
  | inr n => exact (if_pos rfl).mpr q
theorem w_number_of {u : OVt} {n : Nm} {Q : Nm → Nat → Prop} (h : numV u = some n) (q : Q n c) : M.W (m_number_of_V (u, ())) c Q X := by
  simp only [m_number_of_V, b_number_of_V, M.to_W, M.none_W, M.bind_W, M.ret_W, M.need_W, M.the_W, M.ifb_W, M.anyOf_W, M.still_W, M.roll_W, M.pick_W, M.thn_W, M.thn_nx, M.thn_rt, M.thn_bk, M.thn_ct, M.fin_W, M.fin_rt, M.finN_W, M.finN_rt, M.finN_nx, M.FK_nx, M.FK_ct, M.FK_bk, M.FK_rt, decide_eq_true_eq, if_true, if_false, Bool.false_eq_true, Bool.not_eq_true', decide_eq_false_iff_not, Bool.not_true, Bool.not_false, ite_not]
  refine sum_ft ?_
  cases u with
  | inl d =>
    cases d with
    | int i =>
      obtain rfl := Option.some.inj h
      exact (if_neg Bool.false_ne_true).mpr ⟨_, rfl, _, rfl, ⟨by decide, bd_sm (by decide) (by decide)⟩, q⟩
    | _ => cases h
  | inr m =>
    obtain rfl := Option.some.inj h
    exact (if_pos rfl).mpr ⟨_, rfl, q⟩
theorem w_required {u : OVt} {Q : Nm → Nat → Prop} (x : numV u = none → X ⟨"InvalidNumber", .none⟩) (q : ∀ n, numV u = some n → Q n c) : M.W (m_required_X (u, ())) c Q X := by
  have e1 := fun (c : Nat) (Q : Bool → Nat → Prop) => w_like (u := u) (c := c) (X := fun _ => False) (Q := Q)
  have e2 := fun (n : Nm) (c : Nat) (Q : Nm → Nat → Prop) => w_number_of (u := u) (n := n) (c := c) (X := fun _ => False) (Q := Q)
  simp only [m_required_X, b_required_X, M.to_W, M.none_W, M.bind_W, M.ret_W, M.need_W, M.the_W, M.ifb_W, M.anyOf_W, M.still_W, M.roll_W, M.pick_W, M.thn_W, M.thn_nx, M.thn_rt, M.thn_bk, M.thn_ct, M.fin_W, M.fin_rt, M.finN_W, M.finN_rt, M.finN_nx, M.FK_nx, M.FK_ct, M.FK_bk, M.FK_rt, decide_eq_true_eq, if_true, if_false, Bool.false_eq_true, Bool.not_eq_true', decide_eq_false_iff_not, Bool.not_true, Bool.not_false, ite_not, M.safe_W, M.raise_W]
  refine e1 _ _ ?_
  cases h : numV u with
  | none => exact (if_pos rfl).mpr (x h)
  | some n => exact (if_neg (fun z => Bool.noConfusion z)).mpr (e2 _ _ _ h (q n h))
def Unl (a b : Nm) : Prop := a.r ≠ 0 ∧ b.r ≠ 0 ∧ a.r ≠ b.r
def cRt (a b : Nm) : Int := if a.r = 0 then b.r else a.r
theorem w_common {a b : Nm} {Q : Int → Nat → Prop} (x : Unl a b → X ⟨"InvalidNumber", .none⟩) (q : ¬ Unl a b → Q (cRt a b) c) : M.W (m_common_root_X (a, b, ())) c Q X := by
  simp only [m_common_root_X, b_common_root_X, M.to_W, M.none_W, M.bind_W, M.ret_W, M.need_W, M.the_W, M.ifb_W, M.anyOf_W, M.still_W, M.roll_W, M.pick_W, M.thn_W, M.thn_nx, M.thn_rt, M.thn_bk, M.thn_ct, M.fin_W, M.fin_rt, M.finN_W, M.finN_rt, M.finN_nx, M.FK_nx, M.FK_ct, M.FK_bk, M.FK_rt, decide_eq_true_eq, if_true, if_false, Bool.false_eq_true, Bool.not_eq_true', decide_eq_false_iff_not, Bool.not_true, Bool.not_false, ite_not, M.safe_W, M.raise_W]
  have e : (if a.r = 0 then Q b.r c else Q a.r c) = Q (cRt a b) c := by
    unfold cRt
    split <;> rfl
  rw [e]
  split
  · rename_i h; exact q fun u => u.1 h
  · split
    · rename_i h; exact q fun u => u.2.1 h
    · split
      · rename_i h; exact q fun u => u.2.2 h
      · rename_i h1 h2 h3; exact x ⟨h1, h2, h3⟩
structure Sm (a : Nm) : Prop where
  t : Bd 100 a.t
  p : Bd 100 a.p
  r : Bd 10 a.r
  b : Bd 100 a.b
  b0 : a.b ≠ 0
theorem Sm.cr {a b : Nm} (h : Sm a) (k : Sm b) : Bd 10 (cRt a b) := by
  unfold cRt
  split
  · exact k.r
  · exact h.r
theorem sub_bd {n : Nat} {i j : Int} (h : Bd n i) (k : Bd n j) : Bd (n + 1) (i - j) := by
  unfold Bd at *
  rw [Nat.pow_succ]
  omega
theorem w_add {a b : Nm} {Q : Nm → Nat → Prop} (x : Unl a b → X ⟨"InvalidNumber", .none⟩) (q : ¬ Unl a b → Sm a ∧ Sm b ∧ ∀ n, Q n c) : M.W (m_Number___add___X (a, b, ())) c Q X := by
  have e1 := fun (u : OVt) (c : Nat) (Q : Bool → Nat → Prop) => w_like (u := u) (c := c) (X := fun _ => False) (Q := Q)
  have e2 := fun (u : OVt) (n : Nm) (c : Nat) (Q : Nm → Nat → Prop) => w_number_of (u := u) (n := n) (c := c) (X := fun _ => False) (Q := Q)
  have e3 := fun (a b : Nm) (c : Nat) (Q : Int → Nat → Prop) => w_common (a := a) (b := b) (c := c) (X := X) (Q := Q)
  simp only [m_Number___add___X, b_Number___add___X, M.to_W, M.none_W, M.bind_W, M.ret_W, M.need_W, M.the_W, M.ifb_W, M.anyOf_W, M.still_W, M.roll_W, M.pick_W, M.thn_W, M.thn_nx, M.thn_rt, M.thn_bk, M.thn_ct, M.fin_W, M.fin_rt, M.finN_W, M.finN_rt, M.finN_nx, M.FK_nx, M.FK_ct, M.FK_bk, M.FK_rt, decide_eq_true_eq, if_true, if_false, Bool.false_eq_true, Bool.not_eq_true', decide_eq_false_iff_not, Bool.not_true, Bool.not_false, ite_not, M.safe_W, M.raise_W]
  refine e1 _ _ _ ((if_neg (fun h => Bool.noConfusion h)).mpr (e2 _ b _ _ rfl (e3 _ _ _ _ x fun u => ?_)))
  obtain ⟨h, k, q⟩ := q u
  exact ⟨h.t.mulx k.b (by decide), k.t.mulx h.b (by decide), h.p.mulx k.b (by decide), k.p.mulx h.b (by decide), h.b.mulx k.b (by decide), ⟨Int.mul_ne_zero h.b0 k.b0, (h.b.mul k.b).mono (by decide)⟩, q _⟩
theorem w_sub {a b : Nm} {Q : Nm → Nat → Prop} (x : Unl a b → X ⟨"InvalidNumber", .none⟩) (q : ¬ Unl a b → Sm a ∧ Sm b ∧ ∀ n, Q n c) : M.W (m_Number___sub___X (a, b, ())) c Q X := by
  have e1 := fun (u : OVt) (c : Nat) (Q : Bool → Nat → Prop) => w_like (u := u) (c := c) (X := fun _ => False) (Q := Q)
  have e2 := fun (u : OVt) (n : Nm) (c : Nat) (Q : Nm → Nat → Prop) => w_number_of (u := u) (n := n) (c := c) (X := fun _ => False) (Q := Q)
  have e3 := fun (a b : Nm) (c : Nat) (Q : Int → Nat → Prop) => w_common (a := a) (b := b) (c := c) (X := X) (Q := Q)
  simp only [m_Number___sub___X, b_Number___sub___X, M.to_W, M.none_W, M.bind_W, M.ret_W, M.need_W, M.the_W, M.ifb_W, M.anyOf_W, M.still_W, M.roll_W, M.pick_W, M.thn_W, M.thn_nx, M.thn_rt, M.thn_bk, M.thn_ct, M.fin_W, M.fin_rt, M.finN_W, M.finN_rt, M.finN_nx, M.FK_nx, M.FK_ct, M.FK_bk, M.FK_rt, decide_eq_true_eq, if_true, if_false, Bool.false_eq_true, Bool.not_eq_true', decide_eq_false_iff_not, Bool.not_true, Bool.not_false, ite_not, M.safe_W, M.raise_W]
  refine e1 _ _ _ ((if_neg (fun h => Bool.noConfusion h)).mpr (e2 _ b _ _ rfl (e3 _ _ _ _ x fun u => ?_)))
  obtain ⟨h, k, q⟩ := q u
  exact ⟨h.t.mulx k.b (by decide), k.t.mulx h.b (by decide), h.p.mulx k.b (by decide), k.p.mulx h.b (by decide), h.b.mulx k.b (by decide), ⟨Int.mul_ne_zero h.b0 k.b0, (h.b.mul k.b).mono (by decide)⟩, q _⟩
theorem w_mul {a b : Nm} {Q : Nm → Nat → Prop} (x : Unl a b → X ⟨"InvalidNumber", .none⟩) (q : ¬ Unl a b → Sm a ∧ Sm b ∧ ∀ n, Q n c) : M.W (m_Number___mul___X (a, b, ())) c Q X := by
  have e1 := fun (u : OVt) (c : Nat) (Q : Bool → Nat → Prop) => w_like (u := u) (c := c) (X := fun _ => False) (Q := Q)
  have e2 := fun (u : OVt) (n : Nm) (c : Nat) (Q : Nm → Nat → Prop) => w_number_of (u := u) (n := n) (c := c) (X := fun _ => False) (Q := Q)
  have e3 := fun (a b : Nm) (c : Nat) (Q : Int → Nat → Prop) => w_common (a := a) (b := b) (c := c) (X := X) (Q := Q)
  simp only [m_Number___mul___X, b_Number___mul___X, M.to_W, M.none_W, M.bind_W, M.ret_W, M.need_W, M.the_W, M.ifb_W, M.anyOf_W, M.still_W, M.roll_W, M.pick_W, M.thn_W, M.thn_nx, M.thn_rt, M.thn_bk, M.thn_ct, M.fin_W, M.fin_rt, M.finN_W, M.finN_rt, M.finN_nx, M.FK_nx, M.FK_ct, M.FK_bk, M.FK_rt, decide_eq_true_eq, if_true, if_false, Bool.false_eq_true, Bool.not_eq_true', decide_eq_false_iff_not, Bool.not_true, Bool.not_false, ite_not, M.safe_W, M.raise_W]
  refine e1 _ _ _ ((if_neg (fun h => Bool.noConfusion h)).mpr (e2 _ b _ _ rfl (e3 _ _ _ _ x fun u => ?_)))
  obtain ⟨h, k, q⟩ := q u
  have r := h.cr k
  exact ⟨h.t.mulx k.t (by decide), h.p.mulx k.p (by decide), (h.p.mul k.p).mulx r (by decide), h.t.mulx k.p (by decide), h.p.mulx k.t (by decide), h.b.mulx k.b (by decide), ⟨Int.mul_ne_zero h.b0 k.b0, (h.b.mul k.b).mono (by decide)⟩, q _⟩
theorem w_compared {a : Nm} {u : OVt} {Q : Int → Nat → Prop} (x : (numV u = none ∨ ∃ b, numV u = some b ∧ Unl a b) → X ⟨"InvalidNumber", .none⟩) (q : ∀ b, numV u = some b → ¬ Unl a b → Sm a ∧ Sm b ∧ ∀ n, Q n c) : M.W (m_Number_compared_X (a, u, ())) c Q X := by
  have e2 := fun (u : OVt) (c : Nat) (Q : Nm → Nat → Prop) => w_required (u := u) (c := c) (X := X) (Q := Q)
  have e3 := fun (a b : Nm) (c : Nat) (Q : Int → Nat → Prop) => w_common (a := a) (b := b) (c := c) (X := X) (Q := Q)
  simp only [m_Number_compared_X, b_Number_compared_X, M.to_W, M.none_W, M.bind_W, M.ret_W, M.need_W, M.the_W, M.ifb_W, M.anyOf_W, M.still_W, M.roll_W, M.pick_W, M.thn_W, M.thn_nx, M.thn_rt, M.thn_bk, M.thn_ct, M.fin_W, M.fin_rt, M.finN_W, M.finN_rt, M.finN_nx, M.FK_nx, M.FK_ct, M.FK_bk, M.FK_rt, decide_eq_true_eq, if_true, if_false, Bool.false_eq_true, Bool.not_eq_true', decide_eq_false_iff_not, Bool.not_true, Bool.not_false, ite_not, M.safe_W, M.raise_W]
  refine e2 _ _ _ (fun e => x (.inl e)) fun b hb => e3 _ _ _ _ (fun e => x (.inr ⟨b, hb, e⟩)) fun un => ?_
  obtain ⟨h, k, q⟩ := q b hb un
  have r := h.cr k
  exact ⟨h.t.mulx k.b (by decide), k.t.mulx h.b (by decide), h.p.mulx k.b (by decide), k.p.mulx h.b (by decide), ⟨(sub_bd (h.t.mul k.b) (k.t.mul h.b)).mono (by decide), (sub_bd (h.p.mul k.b) (k.p.mul h.b)).mono (by decide), r⟩, q _⟩
theorem w_over {a : Nm} {u : OVt} {Q : Nm → Nat → Prop} (x : (numV u = none ∨ ∃ b, numV u = some b ∧ Unl a b) → X ⟨"InvalidNumber", .none⟩) (q : ∀ b, numV u = some b → ¬ Unl a b → Sm a ∧ Sm b ∧ (b.t * b.t - b.p * b.p * cRt a b = 0 → X ⟨"InvalidOperation", .none⟩) ∧ (b.t * b.t - b.p * b.p * cRt a b ≠ 0 → ∀ n, Q n c)) : M.W (m_Number_over_X (a, u, ())) c Q X := by
  have e2 := fun (u : OVt) (c : Nat) (Q : Nm → Nat → Prop) => w_required (u := u) (c := c) (X := X) (Q := Q)
  have e3 := fun (a b : Nm) (c : Nat) (Q : Int → Nat → Prop) => w_common (a := a) (b := b) (c := c) (X := X) (Q := Q)
  simp only [m_Number_over_X, b_Number_over_X, M.to_W, M.none_W, M.bind_W, M.ret_W, M.need_W, M.the_W, M.ifb_W, M.anyOf_W, M.still_W, M.roll_W, M.pick_W, M.thn_W, M.thn_nx, M.thn_rt, M.thn_bk, M.thn_ct, M.fin_W, M.fin_rt, M.finN_W, M.finN_rt, M.finN_nx, M.FK_nx, M.FK_ct, M.FK_bk, M.FK_rt, decide_eq_true_eq, if_true, if_false, Bool.false_eq_true, Bool.not_eq_true', decide_eq_false_iff_not, Bool.not_true, Bool.not_false, ite_not, M.safe_W, M.raise_W]
  refine e2 _ _ _ (fun e => x (.inl e)) fun b hb => e3 _ _ _ _ (fun e => x (.inr ⟨b, hb, e⟩)) fun un => ?_
  obtain ⟨h, k, q1, q2⟩ := q b hb un
  have r := h.cr k
  have s1 : Bd 211 (b.t * b.t - b.p * b.p * cRt a b) := sub_bd ((k.t.mul k.t).mono (by decide)) ((k.p.mul k.p).mul r)
  have s2 : Bd 211 (a.t * b.t - a.p * b.p * cRt a b) := sub_bd ((h.t.mul k.t).mono (by decide)) ((h.p.mul k.p).mul r)
  have s3 : Bd 201 (a.p * b.t - a.t * b.p) := sub_bd (h.p.mul k.t) (h.t.mul k.p)
  refine ⟨k.t.mulx k.t (by decide), k.p.mulx k.p (by decide), (k.p.mul k.p).mulx r (by decide), ?_⟩
  split
  · rename_i z; exact q1 z
  · rename_i z
    exact ⟨h.t.mulx k.t (by decide), h.p.mulx k.p (by decide), (h.p.mul k.p).mulx r (by decide), h.p.mulx k.t (by decide), h.t.mulx k.p (by decide), s2.mulx k.b (by decide), s3.mulx k.b (by decide), s1.mulx h.b (by decide), ⟨Int.mul_ne_zero z h.b0, (s1.mul h.b).mono (by decide)⟩, q2 z _⟩
theorem w_used_n {way : Int} {a : Nm} {u : OVt} {Q : Unit → Nat → Prop} (h : (∃ b, u = .inr b ∧ Unl a b) ∨ (2 < way ∧ numV u = none)) (x : X ⟨"InvalidNumber", .none⟩) : M.W (m__law_used_X (way, a, u, ())) c Q X := by
  have ea := fun (b : Nm) (c : Nat) (Q : Nm → Nat → Prop) (h : Unl a b) => w_add (a := a) (b := b) (c := c) (X := X) (Q := Q) (fun _ => x) fun n => absurd h n
  have es := fun (b : Nm) (c : Nat) (Q : Nm → Nat → Prop) (h : Unl a b) => w_sub (a := a) (b := b) (c := c) (X := X) (Q := Q) (fun _ => x) fun n => absurd h n
  have em := fun (b : Nm) (c : Nat) (Q : Nm → Nat → Prop) (h : Unl a b) => w_mul (a := a) (b := b) (c := c) (X := X) (Q := Q) (fun _ => x) fun n => absurd h n
  have eo := fun (c : Nat) (Q : Nm → Nat → Prop) (h : numV u = none ∨ ∃ b, numV u = some b ∧ Unl a b) => w_over (a := a) (u := u) (c := c) (X := X) (Q := Q) (fun _ => x) fun b hb n => by
    rcases h with h | ⟨b', h, ul⟩
    · rw [h] at hb; cases hb
    · rw [h] at hb; cases hb; exact absurd ul n
  have ec := fun (c : Nat) (Q : Int → Nat → Prop) (h : numV u = none ∨ ∃ b, numV u = some b ∧ Unl a b) => w_compared (a := a) (u := u) (c := c) (X := X) (Q := Q) (fun _ => x) fun b hb n => by
    rcases h with h | ⟨b', h, ul⟩
    · rw [h] at hb; cases hb
    · rw [h] at hb; cases hb; exact absurd ul n
  simp only [m__law_used_X, b__law_used_X, M.to_W, M.none_W, M.bind_W, M.ret_W, M.need_W, M.the_W, M.ifb_W, M.anyOf_W, M.still_W, M.roll_W, M.pick_W, M.thn_W, M.thn_nx, M.thn_rt, M.thn_bk, M.thn_ct, M.fin_W, M.fin_rt, M.finN_W, M.finN_rt, M.finN_nx, M.FK_nx, M.FK_ct, M.FK_bk, M.FK_rt, decide_eq_true_eq, if_true, if_false, Bool.false_eq_true, Bool.not_eq_true', decide_eq_false_iff_not, Bool.not_true, Bool.not_false, ite_not, M.safe_W]
  have hv : numV u = none ∨ ∃ b, numV u = some b ∧ Unl a b := h.elim (fun ⟨b, e, ul⟩ => .inr ⟨b, by rw [e]; rfl, ul⟩) fun h => .inl h.2
  have hs : ¬ 2 < way → ∃ b, rgtS u = some b ∧ Unl a b := fun n => h.elim (fun ⟨b, e, ul⟩ => ⟨b, by rw [e]; rfl, ul⟩) fun h => absurd h.1 n
  split
  · obtain ⟨b, e, ul⟩ := hs (by omega)
    exact ⟨b, e, ea _ _ _ ul⟩
  split
  · obtain ⟨b, e, ul⟩ := hs (by omega)
    exact ⟨b, e, es _ _ _ ul⟩
  split
  · obtain ⟨b, e, ul⟩ := hs (by omega)
    exact ⟨b, e, em _ _ _ ul⟩
  split
  · exact eo _ _ hv
  · exact ec _ _ hv
theorem w_used_f {way : Int} {a b : Nm} {Q : Unit → Nat → Prop} (n : ¬ Unl a b) (h : Sm a) (k : Sm b) (o : way = 3 → b.t * b.t - b.p * b.p * cRt a b ≠ 0) (q : Q () c) : M.W (m__law_used_X (way, a, .inr b, ())) c Q X := by
  have ea := fun (c : Nat) (Q : Nm → Nat → Prop) (q : ∀ n, Q n c) => w_add (a := a) (b := b) (c := c) (X := X) (Q := Q) (fun z => absurd z n) fun _ => ⟨h, k, q⟩
  have es := fun (c : Nat) (Q : Nm → Nat → Prop) (q : ∀ n, Q n c) => w_sub (a := a) (b := b) (c := c) (X := X) (Q := Q) (fun z => absurd z n) fun _ => ⟨h, k, q⟩
  have em := fun (c : Nat) (Q : Nm → Nat → Prop) (q : ∀ n, Q n c) => w_mul (a := a) (b := b) (c := c) (X := X) (Q := Q) (fun z => absurd z n) fun _ => ⟨h, k, q⟩
  have nx : ∀ {P : Prop}, (numV (Sum.inr b) = none ∨ ∃ b', numV (Sum.inr b) = some b' ∧ Unl a b') → P := fun z => by
    rcases z with z | ⟨b', z, ul⟩
    · cases z
    · cases z; exact absurd ul n
  have eo := fun (c : Nat) (Q : Nm → Nat → Prop) (z : b.t * b.t - b.p * b.p * cRt a b ≠ 0) (q : ∀ n, Q n c) => w_over (a := a) (u := .inr b) (c := c) (X := X) (Q := Q) nx fun b' hb _ => by
    cases hb
    exact ⟨h, k, fun e => absurd e z, fun _ => q⟩
  have ec := fun (c : Nat) (Q : Int → Nat → Prop) (q : ∀ n, Q n c) => w_compared (a := a) (u := .inr b) (c := c) (X := X) (Q := Q) nx fun b' hb _ => by
    cases hb
    exact ⟨h, k, q⟩
  simp only [m__law_used_X, b__law_used_X, M.to_W, M.none_W, M.bind_W, M.ret_W, M.need_W, M.the_W, M.ifb_W, M.anyOf_W, M.still_W, M.roll_W, M.pick_W, M.thn_W, M.thn_nx, M.thn_rt, M.thn_bk, M.thn_ct, M.fin_W, M.fin_rt, M.finN_W, M.finN_rt, M.finN_nx, M.FK_nx, M.FK_ct, M.FK_bk, M.FK_rt, decide_eq_true_eq, if_true, if_false, Bool.false_eq_true, Bool.not_eq_true', decide_eq_false_iff_not, Bool.not_true, Bool.not_false, ite_not, M.safe_W]
  split
  · exact ⟨b, rfl, ea _ _ fun _ => q⟩
  split
  · exact ⟨b, rfl, es _ _ fun _ => q⟩
  split
  · exact ⟨b, rfl, em _ _ fun _ => q⟩
  split
  · rename_i e; exact eo _ _ (o e) fun _ => q
  · exact ec _ _ fun _ => q
theorem w_made {x : Int × Int × Int × Int × Unit} {Q : Nm → Nat → Prop} (h : x.2.2.2.1 ≠ 0 ∧ isRootB x.2.2.1 = true ∧ x.2.2.2.1.natAbs < 1000) (q : Q (mkNm x.1 x.2.1 x.2.2.1 x.2.2.2.1) c) : M.W (m__law_made (x, ())) c Q X := by
  simp only [m__law_made, b__law_made, M.to_W, M.none_W, M.bind_W, M.ret_W, M.need_W, M.the_W, M.ifb_W, M.anyOf_W, M.still_W, M.roll_W, M.pick_W, M.thn_W, M.thn_nx, M.thn_rt, M.thn_bk, M.thn_ct, M.fin_W, M.fin_rt, M.finN_W, M.finN_rt, M.finN_nx, M.FK_nx, M.FK_ct, M.FK_bk, M.FK_rt, decide_eq_true_eq, if_true, if_false, Bool.false_eq_true, Bool.not_eq_true', decide_eq_false_iff_not, Bool.not_true, Bool.not_false, ite_not]
  exact ⟨⟨h.1, .inr h.2.1, bd_sm (by omega) (by decide)⟩, q⟩
def smB (a : Nm) : Bool := decide (a.b ≠ 0) && decide (a.t.natAbs < 1000) && decide (a.p.natAbs < 1000) && decide (a.b.natAbs < 1000) && decide (a.r.natAbs < 1000) && decide (0 ≤ a.r)
theorem smB_ok {a : Nm} (h : smB a = true) : Gd 1000 a ∧ Sm a := by
  unfold smB at h
  simp only [Bool.and_eq_true, decide_eq_true_eq] at h
  obtain ⟨⟨⟨⟨⟨h1, h2⟩, h3⟩, h4⟩, h5⟩, h6⟩ := h
  exact ⟨⟨h1, bd_sm (by omega) (by decide), bd_sm (by omega) (by decide), bd_sm (by omega) (by decide), bd_sm (by omega) (by decide), h6⟩, ⟨bd_sm (by omega) (by decide), bd_sm (by omega) (by decide), bd_sm (by omega) (by decide), bd_sm (by omega) (by decide), h1⟩⟩
abbrev P4 := Int × Int × Int × Int × Unit
def onL : List P4 := [(1, 2, 5, 3, ()), (0, 1, 5, 1, ()), (-7, -1, 5, 2, ())]
def otL : List P4 := [(1, 1, 2, 1, ()), (0, -4, 3, 7, ()), (3, 1, 7, 2, ())]
def mk4 (x : P4) : Nm := mkNm x.1 x.2.1 x.2.2.1 x.2.2.2.1
def nul : Nm := ⟨0, 0, 0, 1⟩
def okP (x : P4) : Bool := decide (x.2.2.2.1 ≠ 0) && isRootB x.2.2.1 && decide (x.2.2.2.1.natAbs < 1000) && smB (mk4 x) && decide (subN (mk4 x) (mk4 x) = nul)
def prB (x y : P4) : Bool := decide ((mk4 x).r ≠ 0) && decide ((mk4 y).r ≠ 0) && decide ((mk4 x).r ≠ (mk4 y).r)
theorem on_ok : onL.all okP = true := by decide +kernel
theorem ot_ok : otL.all okP = true := by decide +kernel
theorem pr_ok : onL.all (fun x => otL.all (prB x)) = true := by decide +kernel
theorem okP_ok {x : P4} (h : okP x = true) : (x.2.2.2.1 ≠ 0 ∧ isRootB x.2.2.1 = true ∧ x.2.2.2.1.natAbs < 1000) ∧ Gd 1000 (mk4 x) ∧ Sm (mk4 x) ∧ subN (mk4 x) (mk4 x) = nul := by
  unfold okP at h
  simp only [Bool.and_eq_true, decide_eq_true_eq] at h
  obtain ⟨⟨⟨⟨h1, h2⟩, h3⟩, h4⟩, h5⟩ := h
  exact ⟨⟨h1, h2, h3⟩, (smB_ok h4).1, (smB_ok h4).2, h5⟩
theorem nul_sm : Sm nul := (smB_ok (by decide +kernel)).2
theorem m34_sm : Sm (mkNm 3 0 0 4) := (smB_ok (by decide +kernel)).2
theorem m34 : mkNm 3 0 0 4 = ⟨3, 0, 0, 4⟩ := by decide +kernel
theorem m34_r : (mkNm 3 0 0 4).r = 0 := by decide +kernel
theorem over_nul {a : Nm} {u : OVt} {Q : Nm → Nat → Prop} (ha : Sm a) (h : numV u = some nul) (x : X ⟨"InvalidOperation", .none⟩) : M.W (m_Number_over_X (a, u, ())) c Q X := by
  refine w_over (fun z => ?_) fun b hb _ => ?_
  · rcases z with z | ⟨b, z, ul⟩
    · rw [h] at z; cases z
    · rw [h] at z; cases z; exact absurd rfl ul.2.1
  · rw [h] at hb
    cases hb
    refine ⟨ha, nul_sm, fun _ => x, fun z => absurd ?_ z⟩
    simp [nul]
theorem w_reckons {Q : Bool → Nat → Prop} (hc : c < 6000) (q : ∀ d, d ≤ c + 4 → Q true d) : M.W (m__law_reckons ()) c Q X := by
  have em := fun (x : P4) (c : Nat) (Q : Nm → Nat → Prop) => w_made (x := x) (c := c) (X := X) (Q := Q)
  simp only [m__law_reckons, b__law_reckons, M.to_W, M.none_W, M.bind_W, M.ret_W, M.need_W, M.the_W, M.ifb_W, M.anyOf_W, M.still_W, M.roll_W, M.pick_W, M.thn_W, M.thn_nx, M.thn_rt, M.thn_bk, M.thn_ct, M.fin_W, M.fin_rt, M.finN_W, M.finN_rt, M.finN_nx, M.FK_nx, M.FK_ct, M.FK_bk, M.FK_rt, decide_eq_true_eq, if_true, if_false, Bool.false_eq_true, Bool.not_eq_true', decide_eq_false_iff_not, Bool.not_true, Bool.not_false, ite_not]
  refine ⟨by omega, by decide, by decide, fun x hx => ?_⟩
  obtain ⟨x1, gx, sx, zx⟩ := okP_ok (List.all_eq_true.mp on_ok x hx)
  refine em x _ _ x1 ⟨by omega, by decide, by decide, fun y hy => ?_⟩
  obtain ⟨y1, gy, sy, zy⟩ := okP_ok (List.all_eq_true.mp ot_ok y hy)
  have ul : Unl (mk4 x) (mk4 y) := by
    have := List.all_eq_true.mp (List.all_eq_true.mp pr_ok x hx) y hy
    unfold prB at this
    simp only [Bool.and_eq_true, decide_eq_true_eq] at this
    exact ⟨this.1.1, this.1.2, this.2⟩
  refine em y _ _ y1 ⟨by omega, by decide, by decide, fun odd ho => ?_⟩
  have ho2 : numV (Sum.inl odd) = none := by
    simp only [List.mem_cons, List.not_mem_nil, or_false] at ho
    rcases ho with rfl | rfl | rfl | rfl | rfl | rfl | rfl | rfl <;> rfl
  have e1 : mkNm x.1 x.2.1 x.2.2.1 x.2.2.2.1 = mk4 x := rfl
  have e2 : mkNm y.1 y.2.1 y.2.2.1 y.2.2.2.1 = mk4 y := rfl
  rw [e1, e2]
  generalize mk4 x = a at *
  generalize mk4 y = b at *
  refine ⟨by decide, M.forM_inv (fun i σ e => e = c + 1 + 1 + 1 ∧ σ.2.1 = a ∧ σ.2.2.1 = b ∧ σ.2.2.2.1 = odd) ⟨rfl, rfl, rfl, rfl⟩ ?_ ?_⟩
  · rintro i v ⟨y1, y2, y3, y4, y5, y6, y7⟩ d' hi ⟨rfl, f1, f2, f3⟩
    dsimp only at f1 f2 f3
    subst f1 f2 f3
    simp only [M.to_W, M.none_W, M.bind_W, M.ret_W, M.need_W, M.the_W, M.ifb_W, M.anyOf_W, M.still_W, M.roll_W, M.pick_W, M.thn_W, M.thn_nx, M.thn_rt, M.thn_bk, M.thn_ct, M.fin_W, M.fin_rt, M.finN_W, M.finN_rt, M.finN_nx, M.FK_nx, M.FK_ct, M.FK_bk, M.FK_rt, decide_eq_true_eq, if_true, if_false, Bool.false_eq_true, Bool.not_eq_true', decide_eq_false_iff_not, Bool.not_true, Bool.not_false, ite_not]
    refine w_word_n (fun Q X n => ?_) ((if_pos rfl).mpr ?_)
    · simp only [M.to_W, M.none_W, M.bind_W, M.ret_W, M.need_W, M.the_W, M.ifb_W, M.anyOf_W, M.still_W, M.roll_W, M.pick_W, M.thn_W, M.thn_nx, M.thn_rt, M.thn_bk, M.thn_ct, M.fin_W, M.fin_rt, M.finN_W, M.finN_rt, M.finN_nx, M.FK_nx, M.FK_ct, M.FK_bk, M.FK_rt, decide_eq_true_eq, if_true, if_false, Bool.false_eq_true, Bool.not_eq_true', decide_eq_false_iff_not, Bool.not_true, Bool.not_false, ite_not, M.safe_W]
      exact w_used_n (.inl ⟨_, rfl, ul⟩) n
    have h4 : ∀ {c : Nat} {Q : Unit → Nat → Prop} {X : Er → Prop}, Q () c → M.W (m__law_used_X (v, y3, Sum.inr (mkNm 3 0 0 4), ())) c Q X := fun q =>
      w_used_f (fun u => u.2.1 m34_r) sy m34_sm (fun _ => by rw [m34]; simp) q
    have h3 : ∀ {c : Nat} {Q : Unit → Nat → Prop} {X : Er → Prop}, v ≠ 3 → Q () c → M.W (m__law_used_X (v, y2, Sum.inr (subN y3 y3), ())) c Q X := fun z q => by
      rw [zy]
      exact w_used_f (fun u => u.2.1 rfl) sx nul_sm (fun e => absurd e z) q
    split
    · rename_i l2
      refine w_word_n (fun Q X n => ?_) ((if_pos rfl).mpr ?_)
      · simp only [M.to_W, M.none_W, M.bind_W, M.ret_W, M.need_W, M.the_W, M.ifb_W, M.anyOf_W, M.still_W, M.roll_W, M.pick_W, M.thn_W, M.thn_nx, M.thn_rt, M.thn_bk, M.thn_ct, M.fin_W, M.fin_rt, M.finN_W, M.finN_rt, M.finN_nx, M.FK_nx, M.FK_ct, M.FK_bk, M.FK_rt, decide_eq_true_eq, if_true, if_false, Bool.false_eq_true, Bool.not_eq_true', decide_eq_false_iff_not, Bool.not_true, Bool.not_false, ite_not, M.safe_W]
        exact w_used_n (.inr ⟨l2, ho2⟩) n
      split
      · refine w_word_f (fun Q X k => ?_) ((if_pos rfl).mpr ⟨by trivial, by trivial, by trivial, by trivial⟩)
        simp only [M.to_W, M.none_W, M.bind_W, M.ret_W, M.need_W, M.the_W, M.ifb_W, M.anyOf_W, M.still_W, M.roll_W, M.pick_W, M.thn_W, M.thn_nx, M.thn_rt, M.thn_bk, M.thn_ct, M.fin_W, M.fin_rt, M.finN_W, M.finN_rt, M.finN_nx, M.FK_nx, M.FK_ct, M.FK_bk, M.FK_rt, decide_eq_true_eq, if_true, if_false, Bool.false_eq_true, Bool.not_eq_true', decide_eq_false_iff_not, Bool.not_true, Bool.not_false, ite_not, M.safe_W]
        exact ⟨⟨by decide, bd_sm (by decide) (by decide)⟩, h4 k⟩
      · rename_i n3
        refine w_word_f (fun Q X k => ?_) ((if_pos rfl).mpr (w_word_f (fun Q X k => ?_) ((if_pos rfl).mpr ⟨by trivial, by trivial, by trivial, by trivial⟩)))
        · simp only [M.to_W, M.none_W, M.bind_W, M.ret_W, M.need_W, M.the_W, M.ifb_W, M.anyOf_W, M.still_W, M.roll_W, M.pick_W, M.thn_W, M.thn_nx, M.thn_rt, M.thn_bk, M.thn_ct, M.fin_W, M.fin_rt, M.finN_W, M.finN_rt, M.finN_nx, M.FK_nx, M.FK_ct, M.FK_bk, M.FK_rt, decide_eq_true_eq, if_true, if_false, Bool.false_eq_true, Bool.not_eq_true', decide_eq_false_iff_not, Bool.not_true, Bool.not_false, ite_not, M.safe_W]
          exact ⟨⟨⟨.inr (.inr rfl), gy, gy⟩, trivial⟩, h3 n3 k⟩
        · simp only [M.to_W, M.none_W, M.bind_W, M.ret_W, M.need_W, M.the_W, M.ifb_W, M.anyOf_W, M.still_W, M.roll_W, M.pick_W, M.thn_W, M.thn_nx, M.thn_rt, M.thn_bk, M.thn_ct, M.fin_W, M.fin_rt, M.finN_W, M.finN_rt, M.finN_nx, M.FK_nx, M.FK_ct, M.FK_bk, M.FK_rt, decide_eq_true_eq, if_true, if_false, Bool.false_eq_true, Bool.not_eq_true', decide_eq_false_iff_not, Bool.not_true, Bool.not_false, ite_not, M.safe_W]
          exact ⟨⟨by decide, bd_sm (by decide) (by decide)⟩, h4 k⟩
    · split
      · refine w_word_f (fun Q X k => ?_) ((if_pos rfl).mpr ⟨by trivial, by trivial, by trivial, by trivial⟩)
        simp only [M.to_W, M.none_W, M.bind_W, M.ret_W, M.need_W, M.the_W, M.ifb_W, M.anyOf_W, M.still_W, M.roll_W, M.pick_W, M.thn_W, M.thn_nx, M.thn_rt, M.thn_bk, M.thn_ct, M.fin_W, M.fin_rt, M.finN_W, M.finN_rt, M.finN_nx, M.FK_nx, M.FK_ct, M.FK_bk, M.FK_rt, decide_eq_true_eq, if_true, if_false, Bool.false_eq_true, Bool.not_eq_true', decide_eq_false_iff_not, Bool.not_true, Bool.not_false, ite_not, M.safe_W]
        exact ⟨⟨by decide, bd_sm (by decide) (by decide)⟩, h4 k⟩
      · rename_i n3
        refine w_word_f (fun Q X k => ?_) ((if_pos rfl).mpr (w_word_f (fun Q X k => ?_) ((if_pos rfl).mpr ⟨by trivial, by trivial, by trivial, by trivial⟩)))
        · simp only [M.to_W, M.none_W, M.bind_W, M.ret_W, M.need_W, M.the_W, M.ifb_W, M.anyOf_W, M.still_W, M.roll_W, M.pick_W, M.thn_W, M.thn_nx, M.thn_rt, M.thn_bk, M.thn_ct, M.fin_W, M.fin_rt, M.finN_W, M.finN_rt, M.finN_nx, M.FK_nx, M.FK_ct, M.FK_bk, M.FK_rt, decide_eq_true_eq, if_true, if_false, Bool.false_eq_true, Bool.not_eq_true', decide_eq_false_iff_not, Bool.not_true, Bool.not_false, ite_not, M.safe_W]
          exact ⟨⟨⟨.inr (.inr rfl), gy, gy⟩, trivial⟩, h3 n3 k⟩
        · simp only [M.to_W, M.none_W, M.bind_W, M.ret_W, M.need_W, M.the_W, M.ifb_W, M.anyOf_W, M.still_W, M.roll_W, M.pick_W, M.thn_W, M.thn_nx, M.thn_rt, M.thn_bk, M.thn_ct, M.fin_W, M.fin_rt, M.finN_W, M.finN_rt, M.finN_nx, M.FK_nx, M.FK_ct, M.FK_bk, M.FK_rt, decide_eq_true_eq, if_true, if_false, Bool.false_eq_true, Bool.not_eq_true', decide_eq_false_iff_not, Bool.not_true, Bool.not_false, ite_not, M.safe_W]
          exact ⟨⟨by decide, bd_sm (by decide) (by decide)⟩, h4 k⟩
  · rintro ⟨y1, y2, y3, y4, y5, y6, y7⟩ d' ⟨rfl, f1, f2, f3⟩
    dsimp only at f1 f2 f3
    subst f1 f2 f3
    simp only [M.to_W, M.none_W, M.bind_W, M.ret_W, M.need_W, M.the_W, M.ifb_W, M.anyOf_W, M.still_W, M.roll_W, M.pick_W, M.thn_W, M.thn_nx, M.thn_rt, M.thn_bk, M.thn_ct, M.fin_W, M.fin_rt, M.finN_W, M.finN_rt, M.finN_nx, M.FK_nx, M.FK_ct, M.FK_bk, M.FK_rt, decide_eq_true_eq, if_true, if_false, Bool.false_eq_true, Bool.not_eq_true', decide_eq_false_iff_not, Bool.not_true, Bool.not_false, ite_not]
    refine ⟨⟨⟨.inr (.inr rfl), gx, gx⟩, trivial⟩, ⟨⟨.inr (.inr rfl), gy, gy⟩, trivial⟩, by omega, Nat.succ_pos _, (by decide : (4 : Nat) ≤ 1000), fun u hu => ?_⟩
    have hu : u ∈ [Sum.inl (PyData.int 0), Sum.inr (mkNm 0 0 0 1), Sum.inr (subN y2 y2), Sum.inr (subN y3 y3)] := hu
    rw [zx, zy] at hu
    have hz : numV u = some nul := by
      simp only [List.mem_cons, List.not_mem_nil, or_false] at hu
      rcases hu with rfl | rfl | rfl | rfl
      · exact congrArg some (by decide +kernel)
      · exact congrArg some (by decide +kernel)
      · rfl
      · rfl
    refine w_word_o (fun Q X k => ?_) ?_
    · simp only [M.to_W, M.none_W, M.bind_W, M.ret_W, M.need_W, M.the_W, M.ifb_W, M.anyOf_W, M.still_W, M.roll_W, M.pick_W, M.thn_W, M.thn_nx, M.thn_rt, M.thn_bk, M.thn_ct, M.fin_W, M.fin_rt, M.finN_W, M.finN_rt, M.finN_nx, M.FK_nx, M.FK_ct, M.FK_bk, M.FK_rt, decide_eq_true_eq, if_true, if_false, Bool.false_eq_true, Bool.not_eq_true', decide_eq_false_iff_not, Bool.not_true, Bool.not_false, ite_not, M.safe_W]
      exact over_nul sx hz k
    · have e : decide ((Str.ofString "operation") = (Str.ofString "operation")) = true := by simp
      rw [e]
      exact q _ (by omega)
end
section
variable {c : Nat} {X : Er → Prop}
theorem bool1 (a : Bool) : (PyData.bool a).showable = true ∧ (PyData.bool a).hasDict = false ∧ (PyData.bool a).shown.length ≤ sizeLine ∧ (PyData.bool a).depth ≤ 64 := by
  have : (PyData.bool a).showable = true ∧ (PyData.bool a).hasDict = false ∧ (PyData.bool a).shown.length ≤ 1000 ∧ (PyData.bool a).depth ≤ 64 := by
    revert a; decide +kernel
  exact ⟨this.1, this.2.1, by rw [sizeLine_eq]; have := this.2.2.1; omega, this.2.2.2⟩
def rtO (a : Nm) : Option Int := if a.r ≠ 0 then some a.r else none
theorem w_go {xs : List Nm} {Q : Bool → Nat → Prop} (h : xs.length ≤ 1000) (q : Q (decide (((ddI (xs.filterMap rtO)).length : Int) ≤ 1)) c) : M.W (m_go_together (xs, ())) c Q X := by
  simp only [m_go_together, b_go_together, M.to_W, M.none_W, M.bind_W, M.ret_W, M.need_W, M.the_W, M.ifb_W, M.anyOf_W, M.still_W, M.roll_W, M.pick_W, M.thn_W, M.thn_nx, M.thn_rt, M.thn_bk, M.thn_ct, M.fin_W, M.fin_rt, M.finN_W, M.finN_rt, M.finN_nx, M.FK_nx, M.FK_ct, M.FK_bk, M.FK_rt, decide_eq_true_eq, if_true, if_false, Bool.false_eq_true, Bool.not_eq_true', decide_eq_false_iff_not, Bool.not_true, Bool.not_false, ite_not]
  refine ⟨by omega, M.lcM_filter (g := rtO) (fun a ha Q q => ?_) ⟨Nat.le_trans (List.length_filterMap_le _ _) (by omega), q⟩⟩
  simp only [M.to_W, M.none_W, M.bind_W, M.ret_W, M.need_W, M.the_W, M.ifb_W, M.anyOf_W, M.still_W, M.roll_W, M.pick_W, M.thn_W, M.thn_nx, M.thn_rt, M.thn_bk, M.thn_ct, M.fin_W, M.fin_rt, M.finN_W, M.finN_rt, M.finN_nx, M.FK_nx, M.FK_ct, M.FK_bk, M.FK_rt, decide_eq_true_eq, if_true, if_false, Bool.false_eq_true, Bool.not_eq_true', decide_eq_false_iff_not, Bool.not_true, Bool.not_false, ite_not]
  unfold rtO at q
  by_cases z : a.r = 0
  · rw [if_neg (by simp [z])] at q
    rw [if_pos z]; exact q
  · rw [if_pos z] at q
    rw [if_neg z]; exact q
theorem w_one_root {xs : List Nm} {Q : Bool → Nat → Prop} (h : xs.length ≤ 1000) (q : Q (decide (((ddI (xs.filterMap rtO)).length : Int) ≤ 1)) c) : M.W (m_have_one_root (xs, ())) c Q X := by
  have eg := fun (c : Nat) (Q : Bool → Nat → Prop) => w_go (xs := xs) (c := c) (X := X) (Q := Q) h
  simp only [m_have_one_root, b_have_one_root, M.to_W, M.none_W, M.bind_W, M.ret_W, M.need_W, M.the_W, M.ifb_W, M.anyOf_W, M.still_W, M.roll_W, M.pick_W, M.thn_W, M.thn_nx, M.thn_rt, M.thn_bk, M.thn_ct, M.fin_W, M.fin_rt, M.finN_W, M.finN_rt, M.finN_nx, M.FK_nx, M.FK_ct, M.FK_bk, M.FK_rt, decide_eq_true_eq, if_true, if_false, Bool.false_eq_true, Bool.not_eq_true', decide_eq_false_iff_not, Bool.not_true, Bool.not_false, ite_not]
  refine (if_neg (fun z => Bool.noConfusion z)).mpr ⟨by omega, M.lcM_map (g := fun _ => true) (fun a ha Q q => ?_) ?_⟩
  · simp only [M.to_W, M.none_W, M.bind_W, M.ret_W, M.need_W, M.the_W, M.ifb_W, M.anyOf_W, M.still_W, M.roll_W, M.pick_W, M.thn_W, M.thn_nx, M.thn_rt, M.thn_bk, M.thn_ct, M.fin_W, M.fin_rt, M.finN_W, M.finN_rt, M.finN_nx, M.FK_nx, M.FK_ct, M.FK_bk, M.FK_rt, decide_eq_true_eq, if_true, if_false, Bool.false_eq_true, Bool.not_eq_true', decide_eq_false_iff_not, Bool.not_true, Bool.not_false, ite_not]
    exact q
  · have e : (xs.map fun _ => true).all id = true := by simp
    rw [e]
    exact (if_neg (fun z => Bool.noConfusion z)).mpr (eg _ _ q)
def badU : PyData ⊕ (List Nm ⊕ List OVt) → Prop
  | .inl d => isD "tuple" d = false
  | .inr (.inl _) => True
  | .inr (.inr ys) => ys.length ≤ 1000 ∧ ∃ y ∈ ys, isN y = false
theorem sum_rr {α β γ : Type} {f : α → M Bool} {g : β → M Bool} {b : Bool} {ys : γ} {Q : Bool → Nat → Prop} (q : Q b c) : M.W (sumE f (sumE g (fun _ => M.ret b)) (.inr (.inr ys))) c Q X := q
theorem w_one_root_X {u : PyData ⊕ (List Nm ⊕ List OVt)} {Q : Bool → Nat → Prop} (h : badU u) (x : X ⟨"InvalidNumber", .none⟩) : M.W (m_have_one_root_X (u, ())) c Q X := by
  simp only [m_have_one_root_X, b_have_one_root_X, M.to_W, M.none_W, M.bind_W, M.ret_W, M.need_W, M.the_W, M.ifb_W, M.anyOf_W, M.still_W, M.roll_W, M.pick_W, M.thn_W, M.thn_nx, M.thn_rt, M.thn_bk, M.thn_ct, M.fin_W, M.fin_rt, M.finN_W, M.finN_rt, M.finN_nx, M.FK_nx, M.FK_ct, M.FK_bk, M.FK_rt, decide_eq_true_eq, if_true, if_false, Bool.false_eq_true, Bool.not_eq_true', decide_eq_false_iff_not, Bool.not_true, Bool.not_false, ite_not, M.safe_W, M.raise_W]
  match u, h with
  | .inl d, h =>
    have h : isD "tuple" d = false := h
    show (if isD "tuple" d = false then _ else _)
    rw [if_pos h]; exact x
  | .inr (.inl xs), _ =>
    exact (show X _ from x)
  | .inr (.inr ys), ⟨l, y, hy, hn⟩ =>
    refine sum_rr ((if_neg (fun z => Bool.noConfusion z)).mpr ⟨_, rfl, _, rfl, by omega, M.lcM_map (g := isN) (fun a ha Q q => ?_) ?_⟩)
    · simp only [M.to_W, M.none_W, M.bind_W, M.ret_W, M.need_W, M.the_W, M.ifb_W, M.anyOf_W, M.still_W, M.roll_W, M.pick_W, M.thn_W, M.thn_nx, M.thn_rt, M.thn_bk, M.thn_ct, M.fin_W, M.fin_rt, M.finN_W, M.finN_rt, M.finN_nx, M.FK_nx, M.FK_ct, M.FK_bk, M.FK_rt, decide_eq_true_eq, if_true, if_false, Bool.false_eq_true, Bool.not_eq_true', decide_eq_false_iff_not, Bool.not_true, Bool.not_false, ite_not]
      exact sum_ft q
    · have e : (ys.map isN).all id = false := by
        rw [List.all_eq_false]
        exact ⟨false, List.mem_map.mpr ⟨y, hy, hn⟩, by simp⟩
      rw [e]
      exact (if_pos rfl).mpr x
def nmR (r : Int) : Nm := mkNm 1 (if decide (0 < r) = true then 1 else 0) r 1
theorem nmR_ok {r : Int} (h : r ∈ ([0, 0, 2, 3, 5] : List Int)) : okRoot r (if decide (0 < r) = true then 1 else 0) ∧ rtO (nmR r) = if decide (0 < r) = true then some r else none := by
  have e : ([0, 0, 2, 3, 5] : List Int).all (fun r => (decide (r = 0) || isRootB r) && decide (rtO (nmR r) = if decide (0 < r) = true then some r else none)) = true := by decide +kernel
  have := List.all_eq_true.mp e r h
  rw [Bool.and_eq_true, Bool.or_eq_true] at this
  refine ⟨?_, of_decide_eq_true this.2⟩
  rcases this.1 with k | k
  · obtain rfl := of_decide_eq_true k
    exact .inl ⟨rfl, by decide⟩
  · exact .inr k
theorem fm_congr {α β : Type} {f g : α → Option β} : ∀ {l : List α}, (∀ a ∈ l, f a = g a) → l.filterMap f = l.filterMap g
  | [], _ => rfl
  | a :: l, h => by
    rw [List.filterMap_cons, List.filterMap_cons, h a (List.mem_cons_self ..), fm_congr fun b hb => h b (List.mem_cons_of_mem _ hb)]
theorem w_together {Q : Bool → Nat → Prop} (hc : c < 6000) (q : ∀ d, d ≤ c + 10 → Q true d) : M.W (m__law_together ()) c Q X := by
  have e1 := fun (xs : List Nm) (c : Nat) (Q : Bool → Nat → Prop) => w_one_root (xs := xs) (c := c) (X := X) (Q := Q)
  simp only [m__law_together, b__law_together, M.to_W, M.none_W, M.bind_W, M.ret_W, M.need_W, M.the_W, M.ifb_W, M.anyOf_W, M.still_W, M.roll_W, M.pick_W, M.thn_W, M.thn_nx, M.thn_rt, M.thn_bk, M.thn_ct, M.fin_W, M.fin_rt, M.finN_W, M.finN_rt, M.finN_nx, M.FK_nx, M.FK_ct, M.FK_bk, M.FK_rt, decide_eq_true_eq, if_true, if_false, Bool.false_eq_true, Bool.not_eq_true', decide_eq_false_iff_not, Bool.not_true, Bool.not_false, ite_not]
  refine ⟨by omega, by decide, bd_sm (by decide) (by decide), fun r r0 r1 => ⟨by omega, by rw [rng_len]; omega, ?_⟩⟩
  refine M.lcM_inv (fun i ys d => d = c + 1 + i ∧ ys.length = i ∧ ∀ y ∈ ys, y ∈ ([0, 0, 2, 3, 5] : List Int)) ⟨rfl, rfl, fun _ h => by cases h⟩ (fun i a ys d hi ⟨f1, f2, f3⟩ => ?_) fun ys d ⟨f1, f2, f3⟩ => ?_
  · have hil : i < (rng 0 r).length := (List.getElem?_eq_some_iff.mp hi).1
    rw [rng_len] at hil
    simp only [M.to_W, M.none_W, M.bind_W, M.ret_W, M.need_W, M.the_W, M.ifb_W, M.anyOf_W, M.still_W, M.roll_W, M.pick_W, M.thn_W, M.thn_nx, M.thn_rt, M.thn_bk, M.thn_ct, M.fin_W, M.fin_rt, M.finN_W, M.finN_rt, M.finN_nx, M.FK_nx, M.FK_ct, M.FK_bk, M.FK_rt, decide_eq_true_eq, if_true, if_false, Bool.false_eq_true, Bool.not_eq_true', decide_eq_false_iff_not, Bool.not_true, Bool.not_false, ite_not]
    refine ⟨by omega, by decide, by decide, fun x hx => ⟨by omega, by simp [f2], fun y hy => ?_⟩⟩
    rcases List.mem_append.mp hy with h | h
    · exact f3 y h
    · have : y = x := by simpa using h
      rw [this]; exact hx
  · have hl : (rng 0 r).length ≤ 4 := by rw [rng_len]; omega
    have l4 : ys.length ≤ 4 := by omega
    refine ⟨by omega, M.lcM_map (g := nmR) (fun a ha Q q => ?_) ⟨by omega, M.lcM_filter (g := fun r => if decide (0 < r) = true then some r else none) (fun a ha Q q => ?_) ?_⟩⟩
    · simp only [M.to_W, M.none_W, M.bind_W, M.ret_W, M.need_W, M.the_W, M.ifb_W, M.anyOf_W, M.still_W, M.roll_W, M.pick_W, M.thn_W, M.thn_nx, M.thn_rt, M.thn_bk, M.thn_ct, M.fin_W, M.fin_rt, M.finN_W, M.finN_rt, M.finN_nx, M.FK_nx, M.FK_ct, M.FK_bk, M.FK_rt, decide_eq_true_eq, if_true, if_false, Bool.false_eq_true, Bool.not_eq_true', decide_eq_false_iff_not, Bool.not_true, Bool.not_false, ite_not]
      have := (nmR_ok (f3 a ha)).1
      simp only [decide_eq_true_eq] at this
      refine ⟨this, ?_⟩
      unfold nmR at q
      simp only [decide_eq_true_eq] at q
      exact q
    · simp only [M.to_W, M.none_W, M.bind_W, M.ret_W, M.need_W, M.the_W, M.ifb_W, M.anyOf_W, M.still_W, M.roll_W, M.pick_W, M.thn_W, M.thn_nx, M.thn_rt, M.thn_bk, M.thn_ct, M.fin_W, M.fin_rt, M.finN_W, M.finN_rt, M.finN_nx, M.FK_nx, M.FK_ct, M.FK_bk, M.FK_rt, decide_eq_true_eq, if_true, if_false, Bool.false_eq_true, Bool.not_eq_true', decide_eq_false_iff_not, Bool.not_true, Bool.not_false, ite_not]
      by_cases z : 0 < a
      · rw [if_pos z]
        rw [if_pos (by simpa using z)] at q
        exact q
      · rw [if_neg z]
        rw [if_neg (by simpa using z)] at q
        exact q
    · have ef : (ys.map nmR).filterMap rtO = ys.filterMap fun r => if decide (0 < r) = true then some r else none := by
        rw [List.filterMap_map]
        exact fm_congr fun a ha => (nmR_ok (f3 a ha)).2
      have lm : (ys.map nmR).length ≤ 4 := by rw [List.length_map]; exact l4
      generalize hn : ys.map nmR = ns at *
      refine ⟨Nat.le_trans (List.length_filterMap_le _ _) (by omega), e1 ns _ _ (by omega) ⟨bool1 _, bool1 _, ?_⟩⟩
      have lf : decide (((ddI (ns.filterMap rtO)).length : Int) ≤ 1) = decide (((ddI (ys.filterMap fun r => if decide (0 < r) = true then some r else none)).length : Int) < 2) := by
        rw [ef]
        exact decide_eq_decide.mpr (by omega)
      rw [lf]
      refine (if_pos rfl).mpr ?_
      have big : ns.length + 1 ≤ sizeLine := by rw [sizeLine_eq]; omega
      have bad : ∀ z : OVt, isN z = false → badU (.inr (.inr (List.map Sum.inr ns ++ [z]))) := fun z hz => ⟨by simp; omega, z, by simp, hz⟩
      refine ⟨by simpa using big, by simpa using big, by simpa using big, by omega, Nat.succ_pos _, (by decide : (8 : Nat) ≤ 1000), fun x hx => ?_⟩
      have hb : badU x := by
        simp only [List.mem_cons, List.not_mem_nil, or_false] at hx
        rcases hx with rfl | rfl | rfl | rfl | rfl | rfl | rfl | rfl
        · rfl
        · rfl
        · trivial
        · exact bad _ rfl
        · exact bad _ rfl
        · rfl
        · rfl
        · exact bad _ rfl
      refine w_word_n (fun Q X k => ?_) ?_
      · simp only [M.to_W, M.none_W, M.bind_W, M.ret_W, M.need_W, M.the_W, M.ifb_W, M.anyOf_W, M.still_W, M.roll_W, M.pick_W, M.thn_W, M.thn_nx, M.thn_rt, M.thn_bk, M.thn_ct, M.fin_W, M.fin_rt, M.finN_W, M.finN_rt, M.finN_nx, M.FK_nx, M.FK_ct, M.FK_bk, M.FK_rt, decide_eq_true_eq, if_true, if_false, Bool.false_eq_true, Bool.not_eq_true', decide_eq_false_iff_not, Bool.not_true, Bool.not_false, ite_not, M.safe_W]
        exact w_one_root_X hb k
      · have e : decide ((Str.ofString "number") = (Str.ofString "number")) = true := by simp
        rw [e]
        exact q _ (by omega)
end
end PF2
set_option maxHeartbeats 4000000
namespace PF2
open PF PySem PySem.Spec PyProof.Rows L2 SlX
section
variable {P : Program} {w : World} {K : PySem.W.Frag} {mg : Str → Option Value} {base : Heap} {f CO CN CF CE : Addr} {fd : FuncData}
theorem w_body {ns : List Int} {m : M (Ct (List Int × Unit × Unit × Unit) Unit Bool)} (e : b_lawB (ns, (), (), ()) = m) : m.wp 0 (fun t _ => ∃ u, t = .nx (ns, u)) (fun _ => False) := by
  subst e
  show M.W _ _ _ _
  have e1 := fun (c : Nat) (Q : Bool → Nat → Prop) => w_makes (c := c) (Q := Q) (X := fun _ => False)
  have e2 := fun (c : Nat) (Q : Bool → Nat → Prop) => w_reckons (c := c) (Q := Q) (X := fun _ => False)
  have e3 := fun (c : Nat) (Q : Bool → Nat → Prop) => w_together (c := c) (Q := Q) (X := fun _ => False)
  simp only [b_lawB, M.to_W, M.none_W, M.bind_W, M.ret_W, M.need_W, M.the_W, M.ifb_W, M.anyOf_W, M.still_W, M.roll_W, M.pick_W, M.thn_W, M.thn_nx, M.thn_rt, M.thn_bk, M.thn_ct, M.fin_W, M.fin_rt, M.finN_W, M.finN_rt, M.finN_nx, M.FK_nx, M.FK_ct, M.FK_bk, M.FK_rt, decide_eq_true_eq, if_true, if_false, Bool.false_eq_true, Bool.not_eq_true', decide_eq_false_iff_not, Bool.not_true, Bool.not_false, ite_not]
  generalize m__law_makes = m1 at *
  generalize m__law_reckons = m2 at *
  generalize m__law_together = m3 at *
  refine e1 _ _ (by omega) fun d1 h1 => (if_neg (by decide)).mpr (e2 _ _ (by omega) fun d2 h2 => (if_neg (by decide)).mpr (e3 _ _ (by omega) fun d3 h3 => (if_neg (by decide)).mpr ?_))
  exact ⟨((), (), ()), trivial⟩
theorem w_law {X : Er → Prop} {Q : Bool → Nat → Prop} {m : M Bool} (em : m_law = m) (q : Q true 0) : m.wp 0 Q X := by
  subst em
  show M.W _ _ _ _
  have e1 := fun (c : Nat) (Q : Bool → Nat → Prop) => w_one_root (xs := []) (c := c) (X := X) (Q := Q) (by decide)
  simp only [m_law, b_law, M.to_W, M.none_W, M.bind_W, M.ret_W, M.need_W, M.the_W, M.ifb_W, M.anyOf_W, M.still_W, M.roll_W, M.pick_W, M.thn_W, M.thn_nx, M.thn_rt, M.thn_bk, M.thn_ct, M.fin_W, M.fin_rt, M.finN_W, M.finN_rt, M.finN_nx, M.FK_nx, M.FK_ct, M.FK_bk, M.FK_rt, decide_eq_true_eq, if_true, if_false, Bool.false_eq_true, Bool.not_eq_true', decide_eq_false_iff_not, Bool.not_true, Bool.not_false, ite_not]
  generalize m_have_one_root = m1 at *
  have h0 : decide (((ddI (([] : List Nm).filterMap rtO)).length : Int) ≤ 1) = true := by decide +kernel
  rw [h0] at e1
  exact ⟨Nat.zero_le _, e1 _ _ q⟩
def tbC : List (Addr × Addr) := [(420, 416), (434, 430), (439, 437)]
theorem tbN_of {G : Hp} (h : ∀ p ∈ tbC, G p.2 = some (.tbl #[])) : ∀ p ∈ tbN, G p.1 = some (.tbl #[]) := fun p hp => by
  simp only [tbN, List.mem_cons, List.not_mem_nil, or_false] at hp
  rcases hp with rfl | rfl | rfl
  · exact h (420, 416) (by decide)
  · exact h (434, 430) (by decide)
  · exact h (439, 437) (by decide)
abbrev spLaw (K : PySem.W.Frag) : Sp := spCellsT K
theorem ok_law (F : Fun K "law" "law" (topS 42) f fd) (bn : Binds K fd ["_law_script"] []) (G__law_dice : GD P w K mg base "_law_dice" 2 (spDice K)) (fr : Free mg) (G__law_makes : GG P w K mg base "_law_makes" 12 1 (spOfDT aNil rBl m__law_makes)) (G__law_reckons : GG P w K mg base "_law_reckons" 16 1 (spOfDT aNil rBl m__law_reckons)) (G__law_together : GG P w K mg base "_law_together" 10 1 (spOfDT aNil rBl m__law_together)) (g_MAX_ROOT : ∃ tk, mg "MAX_ROOT" = some (.int 999 tk)) (G_have_one_root : GD P w K mg base "have_one_root" 3 (spOf (aCons (rTup K (rNum CN)) aNil) rBl m_have_one_root)) : FnG P w K mg base 17 f 1 (spCellsT K) := by
  refine PF.Fun.okG F sc_law bn (fun cdv A outer s H vs Q hgd hr h => ⟨_, (pss_cons (ps_for PassesOwn.never rfl (pi_range1 (by rfl) fr.b_range (pa_cons (pe_callB (call_max2 rfl) (by rfl) fr.b_max (by decide +kernel) (pa_cons pe_int (pa_cons (pe_callB (call_min2 rfl) (by rfl) fr.b_min (by decide +kernel) (pa_cons pe_int (pa_cons (pe_callB call_len (by rfl) fr.b_len (by decide +kernel) (pa_cons (pv 0) pa_nil)) pa_nil))) pa_nil))) pa_nil)) (pg_name (i := 1) sc_law.nd rfl (by first | exact Or.inl rfl | exact Or.inr rfl))
    (pss_cons (ps_set (i := 2) sc_law.nd rfl (by first | exact Or.inl rfl | exact Or.inr rfl) (pe_c1 G__law_dice (hr.mono (by decide)) (pa_cons (pv 0) (pa_cons (pv 1) pa_nil))))
    (pss_one (ps_if (PW.pt (pw_or (pt_not (pt_val (pe_gd G__law_makes hgd (hr.mono (by decide)) (pa_cons (pv 2) pa_nil) (by rfl)))) (pw_or (pt_not (pt_val (pe_gd G__law_reckons hgd (hr.mono (by decide)) (pa_cons (pv 2) pa_nil) (by rfl)))) (pw_or1 (pt_not (pt_val (pe_gd G__law_together hgd (hr.mono (by decide)) (pa_cons (pv 2) pa_nil) (by rfl)))))))) (pss_one (ps_ret pe_bl)) pss_nil))))
    (pss_one (ps_ret (pe_and (pe_cmpR op_eq (pe_glob (v := .int 999) rfl g_MAX_ROOT.choose_spec ⟨_, rfl⟩) pe_int (nomark _)) (pe_one (pe_cmpR op_isB (pe_c1 G_have_one_root (hr.mono (by decide)) (pa_cons (pe_tup pa_nil) pa_nil)) pe_bl (nomark _))))))), ?_⟩)
  obtain ⟨a, ns, rfl, hS, hl, hB, q⟩ := h
  have ln : (ns.map V.int).length = ns.length := List.length_map _
  refine ⟨_, rfl, _, (ns.map V.int).length, rfl, .inl ⟨_, hS, rfl⟩, _, _, rfl, _, _, rfl, _, rfl, ?_, ?_, ?_⟩
  · split <;> omega
  · have : (2 : Int) ^ 62 = 4611686018427387904 := by decide
    split
    · split <;> omega
    · omega
  generalize hj : (if (if ((ns.map V.int).length : Int) < 4 then ((ns.map V.int).length : Int) else 4) > 1 then (if ((ns.map V.int).length : Int) < 4 then ((ns.map V.int).length : Int) else 4) else 1) = j
  have j3 : j ≤ 4 := by
    rw [← hj]
    split
    · split <;> omega
    · omega
  refine for_range (lo := 0) (fun i σ H' => CellsT K 2 ns σ H') ⟨⟨a, _, rfl, rfl, hS⟩, .empty hB⟩ ?_ ?_
  · rintro i σ H' hi ⟨⟨a', τ, rfl, hτ, hS'⟩, hT⟩
    obtain ⟨o1, τ1, rfl, g1⟩ := len_succ hτ
    obtain ⟨o2, τ2, rfl, g2⟩ := len_succ g1
    refine ⟨_, rfl, _, rfl, a', ns, 0 + (i : Int), rfl, hS', hl, by omega, by omega, fun p H2 s2 np dd => ?_⟩
    refine walk_bodyT (E := eTab) (E' := (eCons sUn (eCons sUn eTab))) (El := eNil) (ρ0 := ()) (n := 0)
      (s_post (s_if (t_or (t_not (t_b (e_callDGT rfl (hasTS (hasTS (hasTS hasT0))) gt2 a_nil))) (t_or (t_not (t_b (e_callDGT rfl (hasTS (hasTS (hasTS hasT0))) gt2 a_nil))) (t_not (t_b (e_callDGT rfl (hasTS (hasTS (hasTS hasT0))) gt2 a_nil))))) (s_ret e_bl) s_nil) (wk_fg (fg_keep (fg_keep (fg_un fg_idG))))) unT_any0 unT_own0 (unT_lenS (unT_lenS unT_len0)) g2 (s2.seq hS') dd np hS' s2 hT ?_ (fun σ' H3 c => c)
    exact fun m e => w_body e
  rintro σ H1 ⟨⟨a', τ, rfl, hτ, _⟩, _⟩
  obtain ⟨o1, τ1, rfl, g1⟩ := len_succ hτ
  obtain ⟨o2, τ2, rfl, g2⟩ := len_succ g1
  obtain rfl := List.length_eq_zero_iff.mp g2
  dsimp only
  refine walk_tail (E := (eCons sUn (eCons sUn (eCons sUn eNil)))) (ρ0 := ((), ((), ((), ())))) (s_ret (e_and (e_op (o_eq sc_int) e_int e_int) (e_op o_isB (e_call (a_cons (e_tupL (Ra := (rNum CN)) al_nil) a_nil)) e_bl))) ?_ ?_ q
  · exact ⟨⟨_, _, rfl, trivial, _, _, rfl, trivial, _, _, rfl, trivial, rfl⟩, List.nodup_nil⟩
  · exact fun m e => w_law e rfl
end
end PF2
namespace PF
open PySem PySem.Spec PyProof.Rows L2 SlX
theorem num_kwd {K : PySem.W.Frag} {D : Addr} {tk1 tk2 : Tok} (h1 : PySem.W.nsIn K D "root" = some (some (.int 0 tk1))) (h2 : PySem.W.nsIn K D "bottom" = some (some (.int 1 tk2))) :
    ∀ q ∈ ([("root", .int 0), ("bottom", .int 1)] : List (Str × V)), ∃ u, PySem.W.nsIn K D q.1 = some (some u) ∧ RelV q.2 u := fun q hq => by
  rcases List.mem_cons.mp hq with e | hq
  · subst e; exact ⟨_, h1, _, rfl⟩
  · rcases List.mem_cons.mp hq with e | hq
    · subst e; exact ⟨_, h2, _, rfl⟩
    · cases hq
theorem kit_self {K : PySem.W.Frag} {C : Addr} : PySem.W.kitOne K (.ref C) (.ref C) = some true := by
  unfold PySem.W.kitOne
  rw [if_pos (by simp)]
theorem kit_own {K : PySem.W.Frag} {C : Addr} {t : Value} {b : Bool} (ne : (t == Value.ref C) = false) (h1 : PySem.W.isClsIn K C = true) (h2 : PySem.W.typeIn K (.ref C) = some (.type "type")) (h3 : PySem.W.subIn K t (.ref C) = some b) : PySem.W.kitOne K t (.ref C) = some b := by
  unfold PySem.W.kitOne
  rw [ne, if_neg Bool.false_ne_true]
  show (if ((PySem.W.clsIn K C).isSome && PySem.W.typeIn K (.ref C) == some (.type "type")) = true then PySem.W.subIn K t (.ref C) else none) = some b
  rw [if_pos (by rw [show (PySem.W.clsIn K C).isSome = true from h1, h2]; rfl)]
  exact h3
theorem kit_bi {K : PySem.W.Frag} {C : Addr} {T : String} {b : Bool} (h1 : PySem.W.kitMeta T = true) (h3 : PySem.W.subIn K (.ref C) (.type T) = some b) : PySem.W.kitOne K (.ref C) (.type T) = some b := by
  unfold PySem.W.kitOne
  rw [if_neg (show ¬ (Value.ref C == Value.type T) = true from fun z => nomatch z)]
  show (if PySem.W.kitMeta T = true then PySem.W.subIn K (.ref C) (.type T) else none) = some b
  rw [if_pos h1]
  exact h3
section
variable {K : PySem.W.Frag} {f : Addr} {fd : FuncData}
theorem num_binds (F : FunD K "__init__" "Number.__init__" (defArgs (inClass (topS 21) 1)) (defBody (inClass (topS 21) 1)) (defScope (inClass (topS 21) 1)) [.int 0] [("root", .int 0), ("bottom", .int 1)] f fd) : ∃ ds, Vals [.int 0, .int 0, .int 1] ds ∧ Binds K fd ["self", "top", "part", "root", "bottom"] ds :=
  F.binds 2 0 (by simp) rfl (fun T D doc pm an cdv ct us its ks h1 h2 h3 => match us, its, ks, h1, h2, h3 with
    | [_, _], [_], [_, _], _, _, _ => ⟨_, rfl, ⟨_, _, _, _, _, _, rfl, rfl, ⟨_, _, _, _, _, _, rfl, rfl, rfl⟩⟩⟩) (by simp)
theorem num_binds2 (F : FunD K "__init__" "Number.__init__" (defArgs (inClass (topS 21) 1)) (defBody (inClass (topS 21) 1)) (defScope (inClass (topS 21) 1)) [.int 0] [("root", .int 0), ("bottom", .int 1)] f fd) : ∃ ds, Vals [.int 0, .int 1] ds ∧ Binds K fd ["self", "top", "part", "root", "bottom"] ds :=
  F.binds 3 1 (by simp) rfl (fun T D doc pm an cdv ct us its ks h1 h2 h3 => match us, its, ks, h1, h2, h3 with
    | [_, _, _], [_], [_, _], _, _, _ => ⟨_, rfl, ⟨_, _, _, _, _, _, rfl, rfl, ⟨_, _, _, _, _, _, rfl, rfl, rfl⟩⟩⟩) (by simp)
theorem num_kbinds (F : FunD K "__init__" "Number.__init__" (defArgs (inClass (topS 21) 1)) (defBody (inClass (topS 21) 1)) (defScope (inClass (topS 21) 1)) [.int 0] [("root", .int 0), ("bottom", .int 1)] f fd) : ∃ its : List Value, KBn K fd ["self", "top", "part", "root", "bottom"] 3 ["root", "bottom"] (fun us ws => us ++ ws) (fun vs zs => vs ++ zs) := by
  obtain ⟨its, h⟩ := F.kbindsD (ps := ["self", "top", "part", "root", "bottom"]) 3 ["root", "bottom"] (fun us _ ws => us ++ ws) (by simp) (fun r1 _ r3 => r1.append r3) (fun T kV doc pm an cdv ct us its ws h1 h2 h3 => match us, its, ws, h1, h2, h3 with
    | [_, _, _], [_], [_, _], _, _, _ => ⟨_, rfl, rfl⟩)
  exact ⟨its, h⟩
end
theorem nf_of {K : PySem.W.Frag} {C : Addr} {t : Value} (h : PySem.W.subIn K t (.ref C) = some false) : PySem.W.notFirst K C t = true := by
  unfold PySem.W.notFirst
  rw [h]
  simp
end PF
namespace PF2
open PF PySem PySem.Spec PyProof.Rows L2 SlX
theorem kb_Number2root {K : PySem.W.Frag} {f : Addr} {fd : FuncData} (F : FunD K "__init__" "Number.__init__" (defArgs (inClass (topS 21) 1)) (defBody (inClass (topS 21) 1)) (defScope (inClass (topS 21) 1)) [.int 0] [("root", .int 0), ("bottom", .int 1)] f fd) : ∃ its mv : List Value, KBn K fd ["self", "top", "part", "root", "bottom"] 3 ["root"] (fun us ws => us ++ ws ++ mv) (fun vs zs => vs ++ zs ++ [V.int 1]) := by
  obtain ⟨its, mv, h⟩ := F.kbinds (ps := ["self", "top", "part", "root", "bottom"]) 3 ["root"] [("bottom", .int 1)] (fun us its mv ws => us ++ ws ++ mv) (by simp) (by simp) (by simp) (fun r1 r2 r3 r4 => (r1.append r4).append r3) (fun T D doc pm an cdv ct us its mv ws h1 h2 h3 h4 => match us, its, mv, ws, h1, h2, h3, h4 with
    | [_, _, _], [_], [_], [_], _, _, _, _ => ⟨_, rfl, ⟨_, _, _, _, _, _, rfl, rfl, rfl⟩⟩)
  exact ⟨its, mv, h⟩
theorem kb_Number1bottom {K : PySem.W.Frag} {f : Addr} {fd : FuncData} (F : FunD K "__init__" "Number.__init__" (defArgs (inClass (topS 21) 1)) (defBody (inClass (topS 21) 1)) (defScope (inClass (topS 21) 1)) [.int 0] [("root", .int 0), ("bottom", .int 1)] f fd) : ∃ its mv : List Value, KBn K fd ["self", "top", "part", "root", "bottom"] 2 ["bottom"] (fun us ws => us ++ its ++ mv ++ ws) (fun vs zs => vs ++ [V.int 0] ++ [V.int 0] ++ zs) := by
  obtain ⟨its, mv, h⟩ := F.kbinds (ps := ["self", "top", "part", "root", "bottom"]) 2 ["bottom"] [("root", .int 0)] (fun us its mv ws => us ++ its ++ mv ++ ws) (by simp) (by simp) (by simp) (fun r1 r2 r3 r4 => ((r1.append r2).append r3).append r4) (fun T D doc pm an cdv ct us its mv ws h1 h2 h3 h4 => match us, its, mv, ws, h1, h2, h3, h4 with
    | [_, _], [_], [_], [_], _, _, _, _ => ⟨_, rfl, ⟨_, _, _, _, _, _, rfl, rfl, rfl⟩⟩)
  exact ⟨its, mv, h⟩
theorem all_mk {prog : Program} {w : World} {K : PySem.W.Frag} {h : Heap} {mg : Str → Option Value} {fa : Addr} (X : K.In h) (G : h.Ns mainGlobals mg) (hfa : mg "law" = some (.ref fa))
    {CN CF : Addr}
    {pNtop : Addr}
    {pNpart : Addr}
    {pNroot : Addr}
    {pNbottom : Addr}
    {pFtop : Addr}
    {pFpart : Addr}
    {pFroot : Addr}
    {pFbottom : Addr}
    {ft0 : Addr} {odt0 ant0 : Option Addr} {slt0 : Array (Option Value)} {oct0 kVt0 dct0 pmt0 cdt0 ctt0 : Value}
    {ft1 : Addr} {odt1 ant1 : Option Addr} {slt1 : Array (Option Value)} {oct1 kVt1 dct1 pmt1 cdt1 ctt1 : Value}
    {ft2 : Addr} {odt2 ant2 : Option Addr} {slt2 : Array (Option Value)} {oct2 kVt2 dct2 pmt2 cdt2 ctt2 : Value}
    {ft3 : Addr} {odt3 ant3 : Option Addr} {slt3 : Array (Option Value)} {oct3 kVt3 dct3 pmt3 cdt3 ctt3 : Value}
    {ft4 : Addr} {odt4 ant4 : Option Addr} {slt4 : Array (Option Value)} {oct4 kVt4 dct4 pmt4 cdt4 ctt4 : Value}
    {ft5 : Addr} {odt5 ant5 : Option Addr} {slt5 : Array (Option Value)} {oct5 kVt5 dct5 pmt5 cdt5 ctt5 : Value}
    {ft6 : Addr} {odt6 ant6 : Option Addr} {slt6 : Array (Option Value)} {oct6 kVt6 dct6 pmt6 cdt6 ctt6 : Value}
    {ffi : Addr} {odfi anfi : Option Addr} {slfi : Array (Option Value)} {ocfi kVfi dcfi pmfi cdfi ctfi : Value}
    {ft7 : Addr} {odt7 ant7 : Option Addr} {slt7 : Array (Option Value)} {oct7 kVt7 dct7 pmt7 cdt7 ctt7 : Value}
    {fni aT aD : Addr} {odni anni odT : Option Addr} {slni slT : Array (Option Value)} {ocni ocT dcni pmni cdni ctni : Value} {mT : Nat} {tk0 tk1 tk2 : Tok}
    {ft8 : Addr} {odt8 ant8 : Option Addr} {slt8 : Array (Option Value)} {oct8 kVt8 dct8 pmt8 cdt8 ctt8 : Value}
    {ft9 : Addr} {odt9 ant9 : Option Addr} {slt9 : Array (Option Value)} {oct9 kVt9 dct9 pmt9 cdt9 ctt9 : Value}
    {ft10 : Addr} {odt10 ant10 : Option Addr} {slt10 : Array (Option Value)} {oct10 kVt10 dct10 pmt10 cdt10 ctt10 : Value}
    {ft11 : Addr} {odt11 ant11 : Option Addr} {slt11 : Array (Option Value)} {oct11 kVt11 dct11 pmt11 cdt11 ctt11 : Value}
    {fadd : Addr} {odadd anadd : Option Addr} {sladd : Array (Option Value)} {ocadd kVadd dcadd pmadd cdadd ctadd : Value}
    {foadd roadd : Option Value}
    {fsub : Addr} {odsub ansub : Option Addr} {slsub : Array (Option Value)} {ocsub kVsub dcsub pmsub cdsub ctsub : Value}
    {fosub rosub : Option Value}
    {fmul : Addr} {odmul anmul : Option Addr} {slmul : Array (Option Value)} {ocmul kVmul dcmul pmmul cdmul ctmul : Value}
    {fomul romul : Option Value}
    {fm_over : Addr} {odm_over anm_over : Option Addr} {slm_over : Array (Option Value)} {ocm_over kVm_over dcm_over pmm_over cdm_over ctm_over : Value}
    {fm_compared : Addr} {odm_compared anm_compared : Option Addr} {slm_compared : Array (Option Value)} {ocm_compared kVm_compared dcm_compared pmm_compared cdm_compared ctm_compared : Value}
    {dp_sign : Addr} {rsp_sign : List Value}
    {fp_sign : Addr} {odp_sign anp_sign : Option Addr} {slp_sign : Array (Option Value)} {ocp_sign kVp_sign dcp_sign pmp_sign cdp_sign ctp_sign : Value}
    {dp_top : Addr} {rsp_top : List Value}
    {fp_top : Addr} {odp_top anp_top : Option Addr} {slp_top : Array (Option Value)} {ocp_top kVp_top dcp_top pmp_top cdp_top ctp_top : Value}
    {dp_part : Addr} {rsp_part : List Value}
    {fp_part : Addr} {odp_part anp_part : Option Addr} {slp_part : Array (Option Value)} {ocp_part kVp_part dcp_part pmp_part cdp_part ctp_part : Value}
    {dp_root : Addr} {rsp_root : List Value}
    {fp_root : Addr} {odp_root anp_root : Option Addr} {slp_root : Array (Option Value)} {ocp_root kVp_root dcp_root pmp_root cdp_root ctp_root : Value}
    {dp_bottom : Addr} {rsp_bottom : List Value}
    {fp_bottom : Addr} {odp_bottom anp_bottom : Option Addr} {slp_bottom : Array (Option Value)} {ocp_bottom kVp_bottom dcp_bottom pmp_bottom cdp_bottom ctp_bottom : Value}
    {feq : Addr} {odeq aneq : Option Addr} {sleq : Array (Option Value)} {oceq kVeq dceq pmeq cdeq cteq : Value}
    {fstr : Addr} {odstr anstr : Option Addr} {slstr : Array (Option Value)} {ocstr kVstr dcstr pmstr cdstr ctstr : Value}
    {ft12 : Addr} {odt12 ant12 : Option Addr} {slt12 : Array (Option Value)} {oct12 kVt12 dct12 pmt12 cdt12 ctt12 : Value}
    {ft13 : Addr} {odt13 ant13 : Option Addr} {slt13 : Array (Option Value)} {oct13 kVt13 dct13 pmt13 cdt13 ctt13 : Value}
    {ft14 : Addr} {odt14 ant14 : Option Addr} {slt14 : Array (Option Value)} {oct14 kVt14 dct14 pmt14 cdt14 ctt14 : Value}
    {A_InvalidNumber : Addr}
    {A_InvalidOperation : Addr}
    {ft15 : Addr} {odt15 ant15 : Option Addr} {slt15 : Array (Option Value)} {oct15 kVt15 dct15 pmt15 cdt15 ctt15 : Value}
    {ft16 : Addr} {odt16 ant16 : Option Addr} {slt16 : Array (Option Value)} {oct16 kVt16 dct16 pmt16 cdt16 ctt16 : Value}
    {ft17 : Addr} {odt17 ant17 : Option Addr} {slt17 : Array (Option Value)} {oct17 kVt17 dct17 pmt17 cdt17 ctt17 : Value}
    {ft18 : Addr} {odt18 ant18 : Option Addr} {slt18 : Array (Option Value)} {oct18 kVt18 dct18 pmt18 cdt18 ctt18 : Value}
    {ft19 : Addr} {odt19 ant19 : Option Addr} {slt19 : Array (Option Value)} {oct19 kVt19 dct19 pmt19 cdt19 ctt19 : Value}
    {ft20 : Addr} {odt20 ant20 : Option Addr} {slt20 : Array (Option Value)} {oct20 kVt20 dct20 pmt20 cdt20 ctt20 : Value}
    {ft21 : Addr} {odt21 ant21 : Option Addr} {slt21 : Array (Option Value)} {oct21 kVt21 dct21 pmt21 cdt21 ctt21 : Value}
    {ft22 : Addr} {odt22 ant22 : Option Addr} {slt22 : Array (Option Value)} {oct22 kVt22 dct22 pmt22 cdt22 ctt22 : Value}
    {ft23 : Addr} {odt23 ant23 : Option Addr} {slt23 : Array (Option Value)} {oct23 kVt23 dct23 pmt23 cdt23 ctt23 : Value}
    {ft24 : Addr} {odt24 ant24 : Option Addr} {slt24 : Array (Option Value)} {oct24 kVt24 dct24 pmt24 cdt24 ctt24 : Value}
    {tkLEAST_ROOT : Tok}
    {tkMAX_ROOT : Tok}
    (z_abs : PySem.W.nsIn K mainGlobals "abs" = some none)
    (z_all : PySem.W.nsIn K mainGlobals "all" = some none)
    (z_bool : PySem.W.nsIn K mainGlobals "bool" = some none)
    (z_int : PySem.W.nsIn K mainGlobals "int" = some none)
    (z_isinstance : PySem.W.nsIn K mainGlobals "isinstance" = some none)
    (z_len : PySem.W.nsIn K mainGlobals "len" = some none)
    (z_list : PySem.W.nsIn K mainGlobals "list" = some none)
    (z_max : PySem.W.nsIn K mainGlobals "max" = some none)
    (z_min : PySem.W.nsIn K mainGlobals "min" = some none)
    (z_range : PySem.W.nsIn K mainGlobals "range" = some none)
    (z_repr : PySem.W.nsIn K mainGlobals "repr" = some none)
    (z_set : PySem.W.nsIn K mainGlobals "set" = some none)
    (z_str : PySem.W.nsIn K mainGlobals "str" = some none)
    (z_tuple : PySem.W.nsIn K mainGlobals "tuple" = some none)
    (cn : PySem.W.specialIn K (.builtin "object.__class__") "__get__" = some (some (.builtin "getset_descriptor.__get__")))
    (ct : PySem.W.takesIn K (.builtin "object.__class__") = some true)
    (aN : PySem.W.nsIn K mainGlobals "Number" = some (some (.ref CN)))
    (aF : PySem.W.nsIn K mainGlobals "Form" = some (some (.ref CF)))
    (pgN : PySem.W.plainGet K CN Str.empty = true)
    (icN : PySem.W.isClsIn K CN = true)
    (poN : PySem.W.plainOver K CN = true)
    (saN : PySem.W.findIn K (.ref CN) "__setattr__" = some (some (.builtin "object.__setattr__")))
    (caN : PySem.W.findIn K (.ref CN) "__class__" = some (some (.builtin "object.__class__")))
    (cmN : PySem.W.mroIn K CN (.type "object") = some true)
    (mkN : PySem.W.makesIn K CN = true)
    (kcN : PySem.W.keepIn K (.ref CN) = true)
    (pgF : PySem.W.plainGet K CF Str.empty = true)
    (icF : PySem.W.isClsIn K CF = true)
    (poF : PySem.W.plainOver K CF = true)
    (saF : PySem.W.findIn K (.ref CF) "__setattr__" = some (some (.builtin "object.__setattr__")))
    (caF : PySem.W.findIn K (.ref CF) "__class__" = some (some (.builtin "object.__class__")))
    (cmF : PySem.W.mroIn K CF (.type "object") = some true)
    (mkF : PySem.W.makesIn K CF = true)
    (kcF : PySem.W.keepIn K (.ref CF) = true)
    (saNtop : PySem.W.findIn K (.ref CN) "own_top" = some (some (.ref pNtop)))
    (sgNtop : PySem.W.specialIn K (.ref pNtop) "__get__" = some (some (.builtin "member_descriptor.__get__")))
    (stNtop : PySem.W.takesIn K (.ref pNtop) = some true)
    (syNtop : PySem.W.typeIn K (.ref pNtop) = some (.type "member_descriptor"))
    (sxNtop : PySem.W.slotIn K pNtop CN = some 3)
    (saNpart : PySem.W.findIn K (.ref CN) "own_part" = some (some (.ref pNpart)))
    (sgNpart : PySem.W.specialIn K (.ref pNpart) "__get__" = some (some (.builtin "member_descriptor.__get__")))
    (stNpart : PySem.W.takesIn K (.ref pNpart) = some true)
    (syNpart : PySem.W.typeIn K (.ref pNpart) = some (.type "member_descriptor"))
    (sxNpart : PySem.W.slotIn K pNpart CN = some 1)
    (saNroot : PySem.W.findIn K (.ref CN) "own_root" = some (some (.ref pNroot)))
    (sgNroot : PySem.W.specialIn K (.ref pNroot) "__get__" = some (some (.builtin "member_descriptor.__get__")))
    (stNroot : PySem.W.takesIn K (.ref pNroot) = some true)
    (syNroot : PySem.W.typeIn K (.ref pNroot) = some (.type "member_descriptor"))
    (sxNroot : PySem.W.slotIn K pNroot CN = some 2)
    (saNbottom : PySem.W.findIn K (.ref CN) "own_bottom" = some (some (.ref pNbottom)))
    (sgNbottom : PySem.W.specialIn K (.ref pNbottom) "__get__" = some (some (.builtin "member_descriptor.__get__")))
    (stNbottom : PySem.W.takesIn K (.ref pNbottom) = some true)
    (syNbottom : PySem.W.typeIn K (.ref pNbottom) = some (.type "member_descriptor"))
    (sxNbottom : PySem.W.slotIn K pNbottom CN = some 0)
    (saFtop : PySem.W.findIn K (.ref CF) "own_top" = some (some (.ref pFtop)))
    (sgFtop : PySem.W.specialIn K (.ref pFtop) "__get__" = some (some (.builtin "member_descriptor.__get__")))
    (stFtop : PySem.W.takesIn K (.ref pFtop) = some true)
    (syFtop : PySem.W.typeIn K (.ref pFtop) = some (.type "member_descriptor"))
    (sxFtop : PySem.W.slotIn K pFtop CF = some 3)
    (saFpart : PySem.W.findIn K (.ref CF) "own_part" = some (some (.ref pFpart)))
    (sgFpart : PySem.W.specialIn K (.ref pFpart) "__get__" = some (some (.builtin "member_descriptor.__get__")))
    (stFpart : PySem.W.takesIn K (.ref pFpart) = some true)
    (syFpart : PySem.W.typeIn K (.ref pFpart) = some (.type "member_descriptor"))
    (sxFpart : PySem.W.slotIn K pFpart CF = some 1)
    (saFroot : PySem.W.findIn K (.ref CF) "own_root" = some (some (.ref pFroot)))
    (sgFroot : PySem.W.specialIn K (.ref pFroot) "__get__" = some (some (.builtin "member_descriptor.__get__")))
    (stFroot : PySem.W.takesIn K (.ref pFroot) = some true)
    (syFroot : PySem.W.typeIn K (.ref pFroot) = some (.type "member_descriptor"))
    (sxFroot : PySem.W.slotIn K pFroot CF = some 2)
    (saFbottom : PySem.W.findIn K (.ref CF) "own_bottom" = some (some (.ref pFbottom)))
    (sgFbottom : PySem.W.specialIn K (.ref pFbottom) "__get__" = some (some (.builtin "member_descriptor.__get__")))
    (stFbottom : PySem.W.takesIn K (.ref pFbottom) = some true)
    (syFbottom : PySem.W.typeIn K (.ref pFbottom) = some (.type "member_descriptor"))
    (sxFbottom : PySem.W.slotIn K pFbottom CF = some 0)
    (tyN : PySem.W.typeIn K (.ref CN) = some (.type "type"))
    (tyF : PySem.W.typeIn K (.ref CF) = some (.type "type"))
    (suF : PySem.W.subIn K (.type "int") (.ref CF) = some false)
    (suI : PySem.W.subIn K (.ref CN) (.type "int") = some false)
    (suN : PySem.W.subIn K (.type "int") (.ref CN) = some false)
    (at0 : PySem.W.nsIn K mainGlobals "is_whole" = some (some (.ref ft0)))
    (lt0 : K.lookup ft0 = some ⟨oct0, odt0, .func (PySem.W.fnOf "is_whole" "is_whole" (defArgs (topS 7)) (defBody (topS 7)) (defScope (topS 7)) .none kVt0 dct0 pmt0 ant0 cdt0 ctt0), slt0⟩)
    (ct0 : PySem.W.codeIn K cdt0 "is_whole" = true)
    (kt0 : PySem.W.keepIn K (.ref ft0) = true)
    (iN_bool : PySem.W.kitOne K (.ref CN) (.type "bool") = some false)
    (at1 : PySem.W.nsIn K mainGlobals "greatest_divisor" = some (some (.ref ft1)))
    (lt1 : K.lookup ft1 = some ⟨oct1, odt1, .func (PySem.W.fnOf "greatest_divisor" "greatest_divisor" (defArgs (topS 8)) (defBody (topS 8)) (defScope (topS 8)) .none kVt1 dct1 pmt1 ant1 cdt1 ctt1), slt1⟩)
    (ct1 : PySem.W.codeIn K cdt1 "greatest_divisor" = true)
    (kt1 : PySem.W.keepIn K (.ref ft1) = true)
    (at2 : PySem.W.nsIn K mainGlobals "whole_root" = some (some (.ref ft2)))
    (lt2 : K.lookup ft2 = some ⟨oct2, odt2, .func (PySem.W.fnOf "whole_root" "whole_root" (defArgs (topS 9)) (defBody (topS 9)) (defScope (topS 9)) .none kVt2 dct2 pmt2 ant2 cdt2 ctt2), slt2⟩)
    (ct2 : PySem.W.codeIn K cdt2 "whole_root" = true)
    (kt2 : PySem.W.keepIn K (.ref ft2) = true)
    (at3 : PySem.W.nsIn K mainGlobals "is_root" = some (some (.ref ft3)))
    (lt3 : K.lookup ft3 = some ⟨oct3, odt3, .func (PySem.W.fnOf "is_root" "is_root" (defArgs (topS 15)) (defBody (topS 15)) (defScope (topS 15)) .none kVt3 dct3 pmt3 ant3 cdt3 ctt3), slt3⟩)
    (ct3 : PySem.W.codeIn K cdt3 "is_root" = true)
    (kt3 : PySem.W.keepIn K (.ref ft3) = true)
    (at4 : PySem.W.nsIn K mainGlobals "sign_of" = some (some (.ref ft4)))
    (lt4 : K.lookup ft4 = some ⟨oct4, odt4, .func (PySem.W.fnOf "sign_of" "sign_of" (defArgs (topS 16)) (defBody (topS 16)) (defScope (topS 16)) .none kVt4 dct4 pmt4 ant4 cdt4 ctt4), slt4⟩)
    (ct4 : PySem.W.codeIn K cdt4 "sign_of" = true)
    (kt4 : PySem.W.keepIn K (.ref ft4) = true)
    (at5 : PySem.W.nsIn K mainGlobals "sign_of_sum" = some (some (.ref ft5)))
    (lt5 : K.lookup ft5 = some ⟨oct5, odt5, .func (PySem.W.fnOf "sign_of_sum" "sign_of_sum" (defArgs (topS 17)) (defBody (topS 17)) (defScope (topS 17)) .none kVt5 dct5 pmt5 ant5 cdt5 ctt5), slt5⟩)
    (ct5 : PySem.W.codeIn K cdt5 "sign_of_sum" = true)
    (kt5 : PySem.W.keepIn K (.ref ft5) = true)
    (at6 : PySem.W.nsIn K mainGlobals "told_number" = some (some (.ref ft6)))
    (lt6 : K.lookup ft6 = some ⟨oct6, odt6, .func (PySem.W.fnOf "told_number" "told_number" (defArgs (topS 18)) (defBody (topS 18)) (defScope (topS 18)) .none kVt6 dct6 pmt6 ant6 cdt6 ctt6), slt6⟩)
    (ct6 : PySem.W.codeIn K cdt6 "told_number" = true)
    (kt6 : PySem.W.keepIn K (.ref ft6) = true)
    (afi : PySem.W.findIn K (.ref CF) "__init__" = some (some (.ref ffi)))
    (lfi : K.lookup ffi = some ⟨ocfi, odfi, .func (PySem.W.fnOf "__init__" "Form.__init__" (defArgs (inClass (topS 19) 1)) (defBody (inClass (topS 19) 1)) (defScope (inClass (topS 19) 1)) .none kVfi dcfi pmfi anfi cdfi ctfi), slfi⟩)
    (cfi : PySem.W.codeIn K cdfi "Form.__init__" = true)
    (kfi : PySem.W.keepIn K (.ref ffi) = true)
    (ifi : PySem.W.isFn K (.ref ffi) = true)
    (at7 : PySem.W.nsIn K mainGlobals "form_in" = some (some (.ref ft7)))
    (lt7 : K.lookup ft7 = some ⟨oct7, odt7, .func (PySem.W.fnOf "form_in" "form_in" (defArgs (topS 20)) (defBody (topS 20)) (defScope (topS 20)) .none kVt7 dct7 pmt7 ant7 cdt7 ctt7), slt7⟩)
    (ct7 : PySem.W.codeIn K cdt7 "form_in" = true)
    (kt7 : PySem.W.keepIn K (.ref ft7) = true)
    (ani : PySem.W.findIn K (.ref CN) "__init__" = some (some (.ref fni)))
    (lni : K.lookup fni = some ⟨ocni, odni, .func (PySem.W.fnOf "__init__" "Number.__init__" (defArgs (inClass (topS 21) 1)) (defBody (inClass (topS 21) 1)) (defScope (inClass (topS 21) 1)) (.ref aT) (.ref aD) dcni pmni anni cdni ctni), slni⟩)
    (cni : PySem.W.codeIn K cdni "Number.__init__" = true)
    (kni : PySem.W.keepIn K (.ref fni) = true)
    (ini : PySem.W.isFn K (.ref fni) = true)
    (lT : K.lookup aT = some ⟨ocT, odT, .seq #[.int 0 tk0] mT, slT⟩)
    (nDr : PySem.W.nsIn K aD "root" = some (some (.int 0 tk1)))
    (nDb : PySem.W.nsIn K aD "bottom" = some (some (.int 1 tk2)))
    (at8 : PySem.W.nsIn K mainGlobals "is_like_number" = some (some (.ref ft8)))
    (lt8 : K.lookup ft8 = some ⟨oct8, odt8, .func (PySem.W.fnOf "is_like_number" "is_like_number" (defArgs (topS 22)) (defBody (topS 22)) (defScope (topS 22)) .none kVt8 dct8 pmt8 ant8 cdt8 ctt8), slt8⟩)
    (ct8 : PySem.W.codeIn K cdt8 "is_like_number" = true)
    (kt8 : PySem.W.keepIn K (.ref ft8) = true)
    (suN_int : PySem.W.subIn K (.type "int") (.ref CN) = some false)
    (suN_bool : PySem.W.subIn K (.type "bool") (.ref CN) = some false)
    (suN_str : PySem.W.subIn K (.type "str") (.ref CN) = some false)
    (suN_NoneType : PySem.W.subIn K (.type "NoneType") (.ref CN) = some false)
    (suN_list : PySem.W.subIn K (.type "list") (.ref CN) = some false)
    (suN_tuple : PySem.W.subIn K (.type "tuple") (.ref CN) = some false)
    (suN_dict : PySem.W.subIn K (.type "dict") (.ref CN) = some false)
    (at9 : PySem.W.nsIn K mainGlobals "number_of" = some (some (.ref ft9)))
    (lt9 : K.lookup ft9 = some ⟨oct9, odt9, .func (PySem.W.fnOf "number_of" "number_of" (defArgs (topS 23)) (defBody (topS 23)) (defScope (topS 23)) .none kVt9 dct9 pmt9 ant9 cdt9 ctt9), slt9⟩)
    (ct9 : PySem.W.codeIn K cdt9 "number_of" = true)
    (kt9 : PySem.W.keepIn K (.ref ft9) = true)
    (at10 : PySem.W.nsIn K mainGlobals "required" = some (some (.ref ft10)))
    (lt10 : K.lookup ft10 = some ⟨oct10, odt10, .func (PySem.W.fnOf "required" "required" (defArgs (topS 24)) (defBody (topS 24)) (defScope (topS 24)) .none kVt10 dct10 pmt10 ant10 cdt10 ctt10), slt10⟩)
    (ct10 : PySem.W.codeIn K cdt10 "required" = true)
    (kt10 : PySem.W.keepIn K (.ref ft10) = true)
    (at11 : PySem.W.nsIn K mainGlobals "common_root" = some (some (.ref ft11)))
    (lt11 : K.lookup ft11 = some ⟨oct11, odt11, .func (PySem.W.fnOf "common_root" "common_root" (defArgs (topS 25)) (defBody (topS 25)) (defScope (topS 25)) .none kVt11 dct11 pmt11 ant11 cdt11 ctt11), slt11⟩)
    (ct11 : PySem.W.codeIn K cdt11 "common_root" = true)
    (kt11 : PySem.W.keepIn K (.ref ft11) = true)
    (aadd : PySem.W.findIn K (.ref CN) "__add__" = some (some (.ref fadd)))
    (ladd : K.lookup fadd = some ⟨ocadd, odadd, .func (PySem.W.fnOf "__add__" "Number.__add__" (defArgs (inClass (topS 21) 13)) (defBody (inClass (topS 21) 13)) (defScope (inClass (topS 21) 13)) .none kVadd dcadd pmadd anadd cdadd ctadd), sladd⟩)
    (cadd : PySem.W.codeIn K cdadd "Number.__add__" = true)
    (kadd : PySem.W.keepIn K (.ref fadd) = true)
    (iadd : PySem.W.isFn K (.ref fadd) = true)
    (rcadd : PySem.W.findIn K (.ref CN) "__radd__" = some none)
    (foadd : PySem.W.findIn K (.type "int") "__add__" = some foadd)
    (roadd : PySem.W.findIn K (.type "int") "__radd__" = some roadd)
    (sfN : PySem.W.selfFirst K CN = true)
    (asub : PySem.W.findIn K (.ref CN) "__sub__" = some (some (.ref fsub)))
    (lsub : K.lookup fsub = some ⟨ocsub, odsub, .func (PySem.W.fnOf "__sub__" "Number.__sub__" (defArgs (inClass (topS 21) 14)) (defBody (inClass (topS 21) 14)) (defScope (inClass (topS 21) 14)) .none kVsub dcsub pmsub ansub cdsub ctsub), slsub⟩)
    (csub : PySem.W.codeIn K cdsub "Number.__sub__" = true)
    (ksub : PySem.W.keepIn K (.ref fsub) = true)
    (isub : PySem.W.isFn K (.ref fsub) = true)
    (rcsub : PySem.W.findIn K (.ref CN) "__rsub__" = some none)
    (fosub : PySem.W.findIn K (.type "int") "__sub__" = some fosub)
    (rosub : PySem.W.findIn K (.type "int") "__rsub__" = some rosub)
    (amul : PySem.W.findIn K (.ref CN) "__mul__" = some (some (.ref fmul)))
    (lmul : K.lookup fmul = some ⟨ocmul, odmul, .func (PySem.W.fnOf "__mul__" "Number.__mul__" (defArgs (inClass (topS 21) 15)) (defBody (inClass (topS 21) 15)) (defScope (inClass (topS 21) 15)) .none kVmul dcmul pmmul anmul cdmul ctmul), slmul⟩)
    (cmul : PySem.W.codeIn K cdmul "Number.__mul__" = true)
    (kmul : PySem.W.keepIn K (.ref fmul) = true)
    (imul : PySem.W.isFn K (.ref fmul) = true)
    (rcmul : PySem.W.findIn K (.ref CN) "__rmul__" = some none)
    (fomul : PySem.W.findIn K (.type "int") "__mul__" = some fomul)
    (romul : PySem.W.findIn K (.type "int") "__rmul__" = some romul)
    (am_over : PySem.W.findIn K (.ref CN) "over" = some (some (.ref fm_over)))
    (lm_over : K.lookup fm_over = some ⟨ocm_over, odm_over, .func (PySem.W.fnOf "over" "Number.over" (defArgs (inClass (topS 21) 12)) (defBody (inClass (topS 21) 12)) (defScope (inClass (topS 21) 12)) .none kVm_over dcm_over pmm_over anm_over cdm_over ctm_over), slm_over⟩)
    (cm_over : PySem.W.codeIn K cdm_over "Number.over" = true)
    (km_over : PySem.W.keepIn K (.ref fm_over) = true)
    (im_over : PySem.W.isFn K (.ref fm_over) = true)
    (am_compared : PySem.W.findIn K (.ref CN) "compared" = some (some (.ref fm_compared)))
    (lm_compared : K.lookup fm_compared = some ⟨ocm_compared, odm_compared, .func (PySem.W.fnOf "compared" "Number.compared" (defArgs (inClass (topS 21) 11)) (defBody (inClass (topS 21) 11)) (defScope (inClass (topS 21) 11)) .none kVm_compared dcm_compared pmm_compared anm_compared cdm_compared ctm_compared), slm_compared⟩)
    (cm_compared : PySem.W.codeIn K cdm_compared "Number.compared" = true)
    (km_compared : PySem.W.keepIn K (.ref fm_compared) = true)
    (im_compared : PySem.W.isFn K (.ref fm_compared) = true)
    (ap_sign : PySem.W.findIn K (.ref CN) "sign" = some (some (.ref dp_sign)))
    (sp_sign : PySem.W.specialIn K (.ref dp_sign) "__get__" = some (some (.builtin "property.__get__")))
    (tp_sign : PySem.W.takesIn K (.ref dp_sign) = some true)
    (rp_sign : PySem.W.recIn K dp_sign "property" = some (.ref fp_sign :: rsp_sign))
    (lp_sign : K.lookup fp_sign = some ⟨ocp_sign, odp_sign, .func (PySem.W.fnOf "sign" "Number.sign" (defArgs (inClass (topS 21) 7)) (defBody (inClass (topS 21) 7)) (defScope (inClass (topS 21) 7)) .none kVp_sign dcp_sign pmp_sign anp_sign cdp_sign ctp_sign), slp_sign⟩)
    (cp_sign : PySem.W.codeIn K cdp_sign "Number.sign" = true)
    (kp_sign : PySem.W.keepIn K (.ref fp_sign) = true)
    (ap_top : PySem.W.findIn K (.ref CN) "top" = some (some (.ref dp_top)))
    (sp_top : PySem.W.specialIn K (.ref dp_top) "__get__" = some (some (.builtin "property.__get__")))
    (tp_top : PySem.W.takesIn K (.ref dp_top) = some true)
    (rp_top : PySem.W.recIn K dp_top "property" = some (.ref fp_top :: rsp_top))
    (lp_top : K.lookup fp_top = some ⟨ocp_top, odp_top, .func (PySem.W.fnOf "top" "Number.top" (defArgs (inClass (topS 21) 3)) (defBody (inClass (topS 21) 3)) (defScope (inClass (topS 21) 3)) .none kVp_top dcp_top pmp_top anp_top cdp_top ctp_top), slp_top⟩)
    (cp_top : PySem.W.codeIn K cdp_top "Number.top" = true)
    (kp_top : PySem.W.keepIn K (.ref fp_top) = true)
    (ap_part : PySem.W.findIn K (.ref CN) "part" = some (some (.ref dp_part)))
    (sp_part : PySem.W.specialIn K (.ref dp_part) "__get__" = some (some (.builtin "property.__get__")))
    (tp_part : PySem.W.takesIn K (.ref dp_part) = some true)
    (rp_part : PySem.W.recIn K dp_part "property" = some (.ref fp_part :: rsp_part))
    (lp_part : K.lookup fp_part = some ⟨ocp_part, odp_part, .func (PySem.W.fnOf "part" "Number.part" (defArgs (inClass (topS 21) 4)) (defBody (inClass (topS 21) 4)) (defScope (inClass (topS 21) 4)) .none kVp_part dcp_part pmp_part anp_part cdp_part ctp_part), slp_part⟩)
    (cp_part : PySem.W.codeIn K cdp_part "Number.part" = true)
    (kp_part : PySem.W.keepIn K (.ref fp_part) = true)
    (ap_root : PySem.W.findIn K (.ref CN) "root" = some (some (.ref dp_root)))
    (sp_root : PySem.W.specialIn K (.ref dp_root) "__get__" = some (some (.builtin "property.__get__")))
    (tp_root : PySem.W.takesIn K (.ref dp_root) = some true)
    (rp_root : PySem.W.recIn K dp_root "property" = some (.ref fp_root :: rsp_root))
    (lp_root : K.lookup fp_root = some ⟨ocp_root, odp_root, .func (PySem.W.fnOf "root" "Number.root" (defArgs (inClass (topS 21) 5)) (defBody (inClass (topS 21) 5)) (defScope (inClass (topS 21) 5)) .none kVp_root dcp_root pmp_root anp_root cdp_root ctp_root), slp_root⟩)
    (cp_root : PySem.W.codeIn K cdp_root "Number.root" = true)
    (kp_root : PySem.W.keepIn K (.ref fp_root) = true)
    (ap_bottom : PySem.W.findIn K (.ref CN) "bottom" = some (some (.ref dp_bottom)))
    (sp_bottom : PySem.W.specialIn K (.ref dp_bottom) "__get__" = some (some (.builtin "property.__get__")))
    (tp_bottom : PySem.W.takesIn K (.ref dp_bottom) = some true)
    (rp_bottom : PySem.W.recIn K dp_bottom "property" = some (.ref fp_bottom :: rsp_bottom))
    (lp_bottom : K.lookup fp_bottom = some ⟨ocp_bottom, odp_bottom, .func (PySem.W.fnOf "bottom" "Number.bottom" (defArgs (inClass (topS 21) 6)) (defBody (inClass (topS 21) 6)) (defScope (inClass (topS 21) 6)) .none kVp_bottom dcp_bottom pmp_bottom anp_bottom cdp_bottom ctp_bottom), slp_bottom⟩)
    (cp_bottom : PySem.W.codeIn K cdp_bottom "Number.bottom" = true)
    (kp_bottom : PySem.W.keepIn K (.ref fp_bottom) = true)
    (aeq : PySem.W.findIn K (.ref CN) "__eq__" = some (some (.ref feq)))
    (leq : K.lookup feq = some ⟨oceq, odeq, .func (PySem.W.fnOf "__eq__" "Number.__eq__" (defArgs (inClass (topS 21) 17)) (defBody (inClass (topS 21) 17)) (defScope (inClass (topS 21) 17)) .none kVeq dceq pmeq aneq cdeq cteq), sleq⟩)
    (ceq : PySem.W.codeIn K cdeq "Number.__eq__" = true)
    (keq : PySem.W.keepIn K (.ref feq) = true)
    (ieq : PySem.W.isFn K (.ref feq) = true)
    (ne : PySem.W.findIn K (.ref CN) "__ne__" = some (some (.builtin "object.__ne__")))
    (astr : PySem.W.findIn K (.ref CN) "__str__" = some (some (.ref fstr)))
    (lstr : K.lookup fstr = some ⟨ocstr, odstr, .func (PySem.W.fnOf "__str__" "Number.__str__" (defArgs (inClass (topS 21) 18)) (defBody (inClass (topS 21) 18)) (defScope (inClass (topS 21) 18)) .none kVstr dcstr pmstr anstr cdstr ctstr), slstr⟩)
    (cstr : PySem.W.codeIn K cdstr "Number.__str__" = true)
    (kstr : PySem.W.keepIn K (.ref fstr) = true)
    (istr : PySem.W.isFn K (.ref fstr) = true)
    (at12 : PySem.W.nsIn K mainGlobals "_law_dice" = some (some (.ref ft12)))
    (lt12 : K.lookup ft12 = some ⟨oct12, odt12, .func (PySem.W.fnOf "_law_dice" "_law_dice" (defArgs (topS 32)) (defBody (topS 32)) (defScope (topS 32)) .none kVt12 dct12 pmt12 ant12 cdt12 ctt12), slt12⟩)
    (ct12 : PySem.W.codeIn K cdt12 "_law_dice" = true)
    (kt12 : PySem.W.keepIn K (.ref ft12) = true)
    (at13 : PySem.W.nsIn K mainGlobals "_law_roll" = some (some (.ref ft13)))
    (lt13 : K.lookup ft13 = some ⟨oct13, odt13, .func (PySem.W.fnOf "_law_roll" "_law_roll" (defArgs (topS 33)) (defBody (topS 33)) (defScope (topS 33)) .none kVt13 dct13 pmt13 ant13 cdt13 ctt13), slt13⟩)
    (ct13 : PySem.W.codeIn K cdt13 "_law_roll" = true)
    (kt13 : PySem.W.keepIn K (.ref ft13) = true)
    (at14 : PySem.W.nsIn K mainGlobals "_law_pick" = some (some (.ref ft14)))
    (lt14 : K.lookup ft14 = some ⟨oct14, odt14, .func (PySem.W.fnOf "_law_pick" "_law_pick" (defArgs (topS 34)) (defBody (topS 34)) (defScope (topS 34)) .none kVt14 dct14 pmt14 ant14 cdt14 ctt14), slt14⟩)
    (ct14 : PySem.W.codeIn K cdt14 "_law_pick" = true)
    (kt14 : PySem.W.keepIn K (.ref ft14) = true)
    (suF_int : PySem.W.subIn K (.type "int") (.ref CF) = some false)
    (suF_bool : PySem.W.subIn K (.type "bool") (.ref CF) = some false)
    (suF_str : PySem.W.subIn K (.type "str") (.ref CF) = some false)
    (suF_NoneType : PySem.W.subIn K (.type "NoneType") (.ref CF) = some false)
    (suF_list : PySem.W.subIn K (.type "list") (.ref CF) = some false)
    (suF_tuple : PySem.W.subIn K (.type "tuple") (.ref CF) = some false)
    (suF_dict : PySem.W.subIn K (.type "dict") (.ref CF) = some false)
    (iNF : PySem.W.kitOne K (.ref CN) (.ref CF) = some false)
    (xa_InvalidNumber : PySem.W.nsIn K mainGlobals "InvalidNumber" = some (some (.ref A_InvalidNumber)))
    (xe_InvalidNumber : PySem.W.excIn K A_InvalidNumber [.type "ValueError", .type "Exception", .type "BaseException", .type "object"] "ValueError.__new__" = true)
    (xk_InvalidNumber : PySem.W.keepIn K (.ref A_InvalidNumber) = true)
    (xs_InvalidNumber : PySem.W.subIn K (.ref A_InvalidNumber) (.type "BaseException") = some true)
    (xt_InvalidNumber : PySem.W.typeIn K (.ref A_InvalidNumber) = some (.type "type"))
    (xa_InvalidOperation : PySem.W.nsIn K mainGlobals "InvalidOperation" = some (some (.ref A_InvalidOperation)))
    (xe_InvalidOperation : PySem.W.excIn K A_InvalidOperation [.type "ValueError", .type "Exception", .type "BaseException", .type "object"] "ValueError.__new__" = true)
    (xk_InvalidOperation : PySem.W.keepIn K (.ref A_InvalidOperation) = true)
    (xs_InvalidOperation : PySem.W.subIn K (.ref A_InvalidOperation) (.type "BaseException") = some true)
    (xt_InvalidOperation : PySem.W.typeIn K (.ref A_InvalidOperation) = some (.type "type"))
    (at15 : PySem.W.nsIn K mainGlobals "go_together" = some (some (.ref ft15)))
    (lt15 : K.lookup ft15 = some ⟨oct15, odt15, .func (PySem.W.fnOf "go_together" "go_together" (defArgs (topS 26)) (defBody (topS 26)) (defScope (topS 26)) .none kVt15 dct15 pmt15 ant15 cdt15 ctt15), slt15⟩)
    (ct15 : PySem.W.codeIn K cdt15 "go_together" = true)
    (kt15 : PySem.W.keepIn K (.ref ft15) = true)
    (at16 : PySem.W.nsIn K mainGlobals "have_one_root" = some (some (.ref ft16)))
    (lt16 : K.lookup ft16 = some ⟨oct16, odt16, .func (PySem.W.fnOf "have_one_root" "have_one_root" (defArgs (topS 27)) (defBody (topS 27)) (defScope (topS 27)) .none kVt16 dct16 pmt16 ant16 cdt16 ctt16), slt16⟩)
    (ct16 : PySem.W.codeIn K cdt16 "have_one_root" = true)
    (kt16 : PySem.W.keepIn K (.ref ft16) = true)
    (at17 : PySem.W.nsIn K mainGlobals "_law_made" = some (some (.ref ft17)))
    (lt17 : K.lookup ft17 = some ⟨oct17, odt17, .func (PySem.W.fnOf "_law_made" "_law_made" (defArgs (topS 35)) (defBody (topS 35)) (defScope (topS 35)) .none kVt17 dct17 pmt17 ant17 cdt17 ctt17), slt17⟩)
    (ct17 : PySem.W.codeIn K cdt17 "_law_made" = true)
    (kt17 : PySem.W.keepIn K (.ref ft17) = true)
    (at18 : PySem.W.nsIn K mainGlobals "_law_word" = some (some (.ref ft18)))
    (lt18 : K.lookup ft18 = some ⟨oct18, odt18, .func (PySem.W.fnOf "_law_word" "_law_word" (defArgs (topS 36)) (defBody (topS 36)) (defScope (topS 36)) .none kVt18 dct18 pmt18 ant18 cdt18 ctt18), slt18⟩)
    (ct18 : PySem.W.codeIn K cdt18 "_law_word" = true)
    (kt18 : PySem.W.keepIn K (.ref ft18) = true)
    (at19 : PySem.W.nsIn K mainGlobals "_law_wrong" = some (some (.ref ft19)))
    (lt19 : K.lookup ft19 = some ⟨oct19, odt19, .func (PySem.W.fnOf "_law_wrong" "_law_wrong" (defArgs (topS 37)) (defBody (topS 37)) (defScope (topS 37)) .none kVt19 dct19 pmt19 ant19 cdt19 ctt19), slt19⟩)
    (ct19 : PySem.W.codeIn K cdt19 "_law_wrong" = true)
    (kt19 : PySem.W.keepIn K (.ref ft19) = true)
    (at20 : PySem.W.nsIn K mainGlobals "_law_used" = some (some (.ref ft20)))
    (lt20 : K.lookup ft20 = some ⟨oct20, odt20, .func (PySem.W.fnOf "_law_used" "_law_used" (defArgs (topS 39)) (defBody (topS 39)) (defScope (topS 39)) .none kVt20 dct20 pmt20 ant20 cdt20 ctt20), slt20⟩)
    (ct20 : PySem.W.codeIn K cdt20 "_law_used" = true)
    (kt20 : PySem.W.keepIn K (.ref ft20) = true)
    (at21 : PySem.W.nsIn K mainGlobals "_law_makes" = some (some (.ref ft21)))
    (lt21 : K.lookup ft21 = some ⟨oct21, odt21, .func (PySem.W.fnOf "_law_makes" "_law_makes" (defArgs (topS 38)) (defBody (topS 38)) (defScope (topS 38)) .none kVt21 dct21 pmt21 ant21 cdt21 ctt21), slt21⟩)
    (ct21 : PySem.W.codeIn K cdt21 "_law_makes" = true)
    (kt21 : PySem.W.keepIn K (.ref ft21) = true)
    (vt21 : cdt21 = .ref 420)
    (E_InvalidNumber_InvalidNumber : PySem.W.exmOne K (.ref A_InvalidNumber) (.ref A_InvalidNumber) = some true)
    (E_InvalidOperation_InvalidNumber : PySem.W.exmOne K (.ref A_InvalidOperation) (.ref A_InvalidNumber) = some false)
    (E_InvalidOperation_InvalidOperation : PySem.W.exmOne K (.ref A_InvalidOperation) (.ref A_InvalidOperation) = some true)
    (at22 : PySem.W.nsIn K mainGlobals "_law_reckons" = some (some (.ref ft22)))
    (lt22 : K.lookup ft22 = some ⟨oct22, odt22, .func (PySem.W.fnOf "_law_reckons" "_law_reckons" (defArgs (topS 40)) (defBody (topS 40)) (defScope (topS 40)) .none kVt22 dct22 pmt22 ant22 cdt22 ctt22), slt22⟩)
    (ct22 : PySem.W.codeIn K cdt22 "_law_reckons" = true)
    (kt22 : PySem.W.keepIn K (.ref ft22) = true)
    (vt22 : cdt22 = .ref 434)
    (at23 : PySem.W.nsIn K mainGlobals "_law_together" = some (some (.ref ft23)))
    (lt23 : K.lookup ft23 = some ⟨oct23, odt23, .func (PySem.W.fnOf "_law_together" "_law_together" (defArgs (topS 41)) (defBody (topS 41)) (defScope (topS 41)) .none kVt23 dct23 pmt23 ant23 cdt23 ctt23), slt23⟩)
    (ct23 : PySem.W.codeIn K cdt23 "_law_together" = true)
    (kt23 : PySem.W.keepIn K (.ref ft23) = true)
    (vt23 : cdt23 = .ref 439)
    (at24 : PySem.W.nsIn K mainGlobals "law" = some (some (.ref ft24)))
    (lt24 : K.lookup ft24 = some ⟨oct24, odt24, .func (PySem.W.fnOf "law" "law" (defArgs (topS 42)) (defBody (topS 42)) (defScope (topS 42)) .none kVt24 dct24 pmt24 ant24 cdt24 ctt24), slt24⟩)
    (ct24 : PySem.W.codeIn K cdt24 "law" = true)
    (kt24 : PySem.W.keepIn K (.ref ft24) = true)
    (gLEAST_ROOT : PySem.W.nsIn K mainGlobals "LEAST_ROOT" = some (some (.int 2 tkLEAST_ROOT)))
    (gMAX_ROOT : PySem.W.nsIn K mainGlobals "MAX_ROOT" = some (some (.int 999 tkMAX_ROOT)))
    : ∀ base : Heap, K.In base → base.Ns mainGlobals mg → (∀ p ∈ tbC, LamX.TabB base mg p.1 p.2) → FnG prog w K mg base 17 fa 1 (spLaw K) := by
  have e := hfa.symm.trans (PySem.W.mg_of X G at24)
  cases e
  intro base _ _ hTB
  have fr : Free mg := ⟨PySem.W.mg_none_of X G z_abs, PySem.W.mg_none_of X G z_all, PySem.W.mg_none_of X G z_bool, PySem.W.mg_none_of X G z_int, PySem.W.mg_none_of X G z_isinstance, PySem.W.mg_none_of X G z_len, PySem.W.mg_none_of X G z_list, PySem.W.mg_none_of X G z_max, PySem.W.mg_none_of X G z_min, PySem.W.mg_none_of X G z_range, PySem.W.mg_none_of X G z_repr, PySem.W.mg_none_of X G z_set, PySem.W.mg_none_of X G z_str, PySem.W.mg_none_of X G z_tuple⟩
  have TN : NTxt K mg CN CF := ⟨PySem.W.mg_of X G aN, PySem.W.mg_of X G aF, ⟨pgN, icN, poN, saN⟩, ⟨pgF, icF, poF, saF⟩, ⟨caN, cn, ct, cmN⟩, ⟨caF, cn, ct, cmF⟩,
    ⟨_, saNtop, sgNtop, stNtop, syNtop, sxNtop, by decide⟩, ⟨_, saNpart, sgNpart, stNpart, syNpart, sxNpart, by decide⟩, ⟨_, saNroot, sgNroot, stNroot, syNroot, sxNroot, by decide⟩, ⟨_, saNbottom, sgNbottom, stNbottom, syNbottom, sxNbottom, by decide⟩, ⟨_, saFtop, sgFtop, stFtop, syFtop, sxFtop, by decide⟩, ⟨_, saFpart, sgFpart, stFpart, syFpart, sxFpart, by decide⟩, ⟨_, saFroot, sgFroot, stFroot, syFroot, sxFroot, by decide⟩, ⟨_, saFbottom, sgFbottom, stFbottom, syFbottom, sxFbottom, by decide⟩, kit_self, kit_self, kit_own rfl icF tyF suF, kit_own rfl icN tyN suN, kit_bi (by decide +kernel) suI⟩
  have T := TN
  have Ft0 := fun_mk (st := topS 7) lt0 ct0 kt0
  have Bt0 := Ft0.binds (ps := ["value"]) fun _ _ _ _ _ _ us hl => match us, hl with | [_], _ => rfl
  have G_is_whole : GD prog w K mg base "is_whole" 2 (spIsWhole K) := ⟨_, _, _, PySem.W.mg_of X G at0, kt0, Bt0, PF.ok_is_whole Ft0 fr⟩
  have G_is_whole_V : GD prog w K mg base "is_whole" 2 (spOf (aCons (rUn (rDt K) (rNum CN)) aNil) rBl m_is_whole_V) := ⟨_, _, _, PySem.W.mg_of X G at0, kt0, Bt0, PF2.ok_is_whole_V Ft0 fr TN iN_bool⟩
  have Ft1 := fun_mk (st := topS 8) lt1 ct1 kt1
  have Bt1 := Ft1.binds (ps := ["one", "other"]) fun _ _ _ _ _ _ us hl => match us, hl with | [_, _], _ => rfl
  have G_greatest_divisor : GD prog w K mg base "greatest_divisor" 2 spGcd := ⟨_, _, _, PySem.W.mg_of X G at1, kt1, Bt1, PF.ok_gcd Ft1⟩
  have Ft2 := fun_mk (st := topS 9) lt2 ct2 kt2
  have Bt2 := Ft2.binds (ps := ["square"]) fun _ _ _ _ _ _ us hl => match us, hl with | [_], _ => rfl
  have G_whole_root : GD prog w K mg base "whole_root" 2 spRoot := ⟨_, _, _, PySem.W.mg_of X G at2, kt2, Bt2, PF.ok_whole_root Ft2⟩
  have Ft3 := fun_mk (st := topS 15) lt3 ct3 kt3
  have Bt3 := Ft3.binds (ps := ["value"]) fun _ _ _ _ _ _ us hl => match us, hl with | [_], _ => rfl
  have G_is_root : GD prog w K mg base "is_root" 3 spIsRoot := ⟨_, _, _, PySem.W.mg_of X G at3, kt3, Bt3, PF.ok_is_root Ft3 fr ⟨_, PySem.W.mg_of X G gMAX_ROOT⟩ ⟨_, PySem.W.mg_of X G gLEAST_ROOT⟩ G_whole_root G_is_whole⟩
  have Ft4 := fun_mk (st := topS 16) lt4 ct4 kt4
  have Bt4 := Ft4.binds (ps := ["value"]) fun _ _ _ _ _ _ us hl => match us, hl with | [_], _ => rfl
  have G_sign_of : GD prog w K mg base "sign_of" 2 spSign := ⟨_, _, _, PySem.W.mg_of X G at4, kt4, Bt4, PF.ok_sign_of Ft4 fr⟩
  have Ft5 := fun_mk (st := topS 17) lt5 ct5 kt5
  have Bt5 := Ft5.binds (ps := ["top", "part", "root"]) fun _ _ _ _ _ _ us hl => match us, hl with | [_, _, _], _ => rfl
  have G_sign_of_sum : GD prog w K mg base "sign_of_sum" 3 spSignSum := ⟨_, _, _, PySem.W.mg_of X G at5, kt5, Bt5, PF.ok_sign_of_sum Ft5 G_sign_of⟩
  have Ft6 := fun_mk (st := topS 18) lt6 ct6 kt6
  have Bt6 := Ft6.binds (ps := ["top", "part", "root", "bottom"]) fun _ _ _ _ _ _ us hl => match us, hl with | [_, _, _, _], _ => rfl
  have G_told_number : GD prog w K mg base "told_number" 2 spTold := ⟨_, _, _, PySem.W.mg_of X G at6, kt6, Bt6, ok_told Ft6 fr⟩
  have Ffi := fun_mk (st := (inClass (topS 19) 1)) lfi cfi kfi
  have Bfi := Ffi.binds (ps := ["self", "top", "part", "root", "bottom"]) fun _ _ _ _ _ _ us hl => match us, hl with | [_, _, _, _, _], _ => rfl
  have G_Form : GM prog w K mg base "Form" CF 3 [] (spFormI CF) := ⟨_, _, _, _, PySem.W.mg_of X G aF, ⟨mkF, afi, ifi, kcF⟩, Bfi, .nil, ok_form_init Ffi fr T G_greatest_divisor⟩
  have Ft7 := fun_mk (st := topS 20) lt7 ct7 kt7
  have Bt7 := Ft7.binds (ps := ["top", "part", "root", "bottom"]) fun _ _ _ _ _ _ us hl => match us, hl with | [_, _, _, _], _ => rfl
  have G_form_in : GD prog w K mg base "form_in" 5 (spFormIn CF) := ⟨_, _, _, PySem.W.mg_of X G at7, kt7, Bt7, PF.ok_form_in Ft7 fr T G_is_whole G_is_root G_Form⟩
  have Fni : FunD K "__init__" "Number.__init__" (defArgs (inClass (topS 21) 1)) (defBody (inClass (topS 21) 1)) (defScope (inClass (topS 21) 1)) [.int 0] [("root", .int 0), ("bottom", .int 1)] fni _ := ⟨⟨ocni, odni, .ref aT, .ref aD, dcni, pmni, anni, cdni, ctni, slni, rfl, lni, cni, .inr ⟨by simp, aT, _, [.int 0 tk0], mT, rfl, lT, rfl, .cons ⟨_, rfl⟩ .nil⟩, .inr ⟨aD, rfl, num_kwd nDr nDb⟩⟩, kni⟩
  have okN := ok_num_init (P := prog) (w := w) (base := base) Fni TN G_form_in
  obtain ⟨ds, rds, Bni⟩ := num_binds Fni
  have MkN : Mk K CN fni := ⟨mkN, ani, ini, kcN⟩
  have G_Number : GM prog w K mg base "Number" CN 6 [.int 0, .int 0, .int 1] (spNumI CN CF) := ⟨_, _, _, _, PySem.W.mg_of X G aN, MkN, Bni, rds, okN⟩
  obtain ⟨its_Number2root, mv_Number2root, K_Number2root⟩ := kb_Number2root Fni
  have G_Number2root : GMKg prog w K mg base "Number" CN 6 2 ["root"] (fun vs zs => vs ++ zs ++ [V.int 1]) (spNumI CN CF) := ⟨_, _, _, _, PySem.W.mg_of X G aN, MkN, K_Number2root, okN⟩
  obtain ⟨its_Number1bottom, mv_Number1bottom, K_Number1bottom⟩ := kb_Number1bottom Fni
  have G_Number1bottom : GMKg prog w K mg base "Number" CN 6 1 ["bottom"] (fun vs zs => vs ++ [V.int 0] ++ [V.int 0] ++ zs) (spNumI CN CF) := ⟨_, _, _, _, PySem.W.mg_of X G aN, MkN, K_Number1bottom, okN⟩
  obtain ⟨its4, Kni⟩ := num_kbinds Fni
  have G_NumberK : GMK prog w K mg base "Number" CN 6 2 ["root", "bottom"] (spNumI CN CF) := ⟨_, _, _, _, PySem.W.mg_of X G aN, MkN, Kni, okN⟩
  have Ft8 := fun_mk (st := topS 22) lt8 ct8 kt8
  have Bt8 := Ft8.binds (ps := ["value"]) fun _ _ _ _ _ _ us hl => match us, hl with | [_], _ => rfl
  have G_is_like_number : GD prog w K mg base "is_like_number" 3 (spLike CN) := ⟨_, _, _, PySem.W.mg_of X G at8, kt8, Bt8, PF.ok_is_like Ft8 fr T G_is_whole⟩
  have ON : OdT K CN := ⟨fun t ht => by
    simp only [List.mem_cons, List.not_mem_nil, or_false] at ht
    rcases ht with rfl | rfl | rfl | rfl | rfl | rfl | rfl
    · exact ⟨kit_own rfl icN tyN suN_int, nf_of suN_int⟩
    · exact ⟨kit_own rfl icN tyN suN_bool, nf_of suN_bool⟩
    · exact ⟨kit_own rfl icN tyN suN_str, nf_of suN_str⟩
    · exact ⟨kit_own rfl icN tyN suN_NoneType, nf_of suN_NoneType⟩
    · exact ⟨kit_own rfl icN tyN suN_list, nf_of suN_list⟩
    · exact ⟨kit_own rfl icN tyN suN_tuple, nf_of suN_tuple⟩
    · exact ⟨kit_own rfl icN tyN suN_dict, nf_of suN_dict⟩⟩
  have G_is_like_number_V : GD prog w K mg base "is_like_number" 3 (spOf (aCons (rUn (rDt K) (rNum CN)) aNil) rBl m_is_like_number_V) := ⟨_, _, _, PySem.W.mg_of X G at8, kt8, Bt8, PF2.ok_is_like_number_V Ft8 TN ON fr G_is_whole_V⟩
  have Ft9 := fun_mk (st := topS 23) lt9 ct9 kt9
  have Bt9 := Ft9.binds (ps := ["value"]) fun _ _ _ _ _ _ us hl => match us, hl with | [_], _ => rfl
  have G_number_of : GD prog w K mg base "number_of" 8 (spNumOf CN) := ⟨_, _, _, PySem.W.mg_of X G at9, kt9, Bt9, PF.ok_number_of Ft9 fr T G_Form G_Number⟩
  have G_number_of_V : GD prog w K mg base "number_of" 8 (spOf (aCons (rUn (rDt K) (rNum CN)) aNil) (rNum CN) m_number_of_V) := ⟨_, _, _, PySem.W.mg_of X G at9, kt9, Bt9, PF2.ok_number_of_V Ft9 TN ON fr G_Number G_Form⟩
  have Ft10 := fun_mk (st := topS 24) lt10 ct10 kt10
  have Bt10 := Ft10.binds (ps := ["value"]) fun _ _ _ _ _ _ us hl => match us, hl with | [_], _ => rfl
  have G_required : GD prog w K mg base "required" 9 (spNumOf CN) := ⟨_, _, _, PySem.W.mg_of X G at10, kt10, Bt10, PF.ok_required Ft10 G_is_like_number G_number_of⟩
  have Ft11 := fun_mk (st := topS 25) lt11 ct11 kt11
  have Bt11 := Ft11.binds (ps := ["one", "other"]) fun _ _ _ _ _ _ us hl => match us, hl with | [_, _], _ => rfl
  have G_common_root : GD prog w K mg base "common_root" 2 (spCommon CN) := ⟨_, _, _, PySem.W.mg_of X G at11, kt11, Bt11, PF.ok_common_root Ft11 T⟩
  have Fadd := fun_mk (st := (inClass (topS 21) 13)) ladd cadd kadd
  have Badd := Fadd.binds (ps := ["self", "other"]) fun _ _ _ _ _ _ us hl => match us, hl with | [_, _], _ => rfl
  have G_add : GB prog w K mg base CN .Add 9 (spBin CN addN fun _ _ => True) := ⟨⟨_, aadd, iadd, fnR_of (PF.ok_add Fadd fr T G_is_like_number G_number_of G_common_root G_Form G_Number) Badd⟩, sfN, ⟨_, _, _, rcadd, .inl rfl, foadd, roadd, suN⟩⟩
  have Fsub := fun_mk (st := (inClass (topS 21) 14)) lsub csub ksub
  have Bsub := Fsub.binds (ps := ["self", "other"]) fun _ _ _ _ _ _ us hl => match us, hl with | [_, _], _ => rfl
  have G_sub : GB prog w K mg base CN .Sub 9 (spBin CN subN fun _ _ => True) := ⟨⟨_, asub, isub, fnR_of (PF.ok_sub Fsub fr T G_is_like_number G_number_of G_common_root G_Form G_Number) Bsub⟩, sfN, ⟨_, _, _, rcsub, .inl rfl, fosub, rosub, suN⟩⟩
  have Fmul := fun_mk (st := (inClass (topS 21) 15)) lmul cmul kmul
  have Bmul := Fmul.binds (ps := ["self", "other"]) fun _ _ _ _ _ _ us hl => match us, hl with | [_, _], _ => rfl
  have G_mul : GB prog w K mg base CN .Mult 9 (spBin CN mulN fun _ _ => True) := ⟨⟨_, amul, imul, fnR_of (PF.ok_mul Fmul fr T G_is_like_number G_number_of G_common_root G_Form G_Number) Bmul⟩, sfN, ⟨_, _, _, rcmul, .inl rfl, fomul, romul, suN⟩⟩
  have Fm_over := fun_mk (st := (inClass (topS 21) 12)) lm_over cm_over km_over
  have Bm_over := Fm_over.binds (ps := ["self", "other"]) fun _ _ _ _ _ _ us hl => match us, hl with | [_, _], _ => rfl
  have M_over : GMe prog w K mg base CN "over" 10 (spBin CN overN fun a b => sizeN a b ≠ 0) := ⟨_, ⟨am_over, im_over, km_over⟩, fnR_of (PF.ok_over Fm_over fr T G_required G_common_root G_Form G_Number) Bm_over⟩
  have Fm_compared := fun_mk (st := (inClass (topS 21) 11)) lm_compared cm_compared km_compared
  have Bm_compared := Fm_compared.binds (ps := ["self", "other"]) fun _ _ _ _ _ _ us hl => match us, hl with | [_, _], _ => rfl
  have M_compared : GMe prog w K mg base CN "compared" 10 (spCmp CN) := ⟨_, ⟨am_compared, im_compared, km_compared⟩, fnR_of (PF.ok_compared Fm_compared fr T G_required G_common_root G_sign_of_sum) Bm_compared⟩
  have Fp_sign := fun_mk (st := (inClass (topS 21) 7)) lp_sign cp_sign kp_sign
  have Bp_sign := Fp_sign.binds (ps := ["self"]) fun _ _ _ _ _ _ us hl => match us, hl with | [_], _ => rfl
  have P_sign : GP prog w K mg base CN "sign" 4 (spInt CN fun n => sgnSum n.t n.p n.r) := ⟨_, _, ap_sign, sp_sign, tp_sign, ⟨_, rp_sign⟩, fnR_of (PF.ok_sign Fp_sign T G_sign_of_sum) Bp_sign⟩
  have Fp_top := fun_mk (st := (inClass (topS 21) 3)) lp_top cp_top kp_top
  have Bp_top := Fp_top.binds (ps := ["self"]) fun _ _ _ _ _ _ us hl => match us, hl with | [_], _ => rfl
  have P_top : GP prog w K mg base CN "top" 2 (spInt0 CN fun n => n.t) := ⟨_, _, ap_top, sp_top, tp_top, ⟨_, rp_top⟩, fnR_of (PF.ok_p_top Fp_top T) Bp_top⟩
  have Fp_part := fun_mk (st := (inClass (topS 21) 4)) lp_part cp_part kp_part
  have Bp_part := Fp_part.binds (ps := ["self"]) fun _ _ _ _ _ _ us hl => match us, hl with | [_], _ => rfl
  have P_part : GP prog w K mg base CN "part" 2 (spInt0 CN fun n => n.p) := ⟨_, _, ap_part, sp_part, tp_part, ⟨_, rp_part⟩, fnR_of (PF.ok_p_part Fp_part T) Bp_part⟩
  have Fp_root := fun_mk (st := (inClass (topS 21) 5)) lp_root cp_root kp_root
  have Bp_root := Fp_root.binds (ps := ["self"]) fun _ _ _ _ _ _ us hl => match us, hl with | [_], _ => rfl
  have P_root : GP prog w K mg base CN "root" 2 (spInt0 CN fun n => n.r) := ⟨_, _, ap_root, sp_root, tp_root, ⟨_, rp_root⟩, fnR_of (PF.ok_p_root Fp_root T) Bp_root⟩
  have Fp_bottom := fun_mk (st := (inClass (topS 21) 6)) lp_bottom cp_bottom kp_bottom
  have Bp_bottom := Fp_bottom.binds (ps := ["self"]) fun _ _ _ _ _ _ us hl => match us, hl with | [_], _ => rfl
  have P_bottom : GP prog w K mg base CN "bottom" 2 (spInt0 CN fun n => n.b) := ⟨_, _, ap_bottom, sp_bottom, tp_bottom, ⟨_, rp_bottom⟩, fnR_of (PF.ok_p_bottom Fp_bottom T) Bp_bottom⟩
  have Feq := fun_mk (st := (inClass (topS 21) 17)) leq ceq keq
  have Beq := Feq.binds (ps := ["self", "other"]) fun _ _ _ _ _ _ us hl => match us, hl with | [_, _], _ => rfl
  have G_eq : GE prog w K mg base CN 2 (spEq K CN) := ⟨⟨_, aeq, ieq, fnR_of (PF.ok_eq Feq fr T) Beq⟩, ne, cmN⟩
  have Fstr := fun_mk (st := (inClass (topS 21) 18)) lstr cstr kstr
  have Bstr := Fstr.binds (ps := ["self"]) fun _ _ _ _ _ _ us hl => match us, hl with | [_], _ => rfl
  have S_str : GS prog w K mg base CN 3 (spStr CN) := ⟨_, astr, istr, fnR_of (ok_str Fstr fr T G_told_number) Bstr⟩
  have Ft12 := fun_mk (st := topS 32) lt12 ct12 kt12
  have Bt12 := Ft12.binds (ps := ["_law_script", "_law_spot"]) fun _ _ _ _ _ _ us hl => match us, hl with | [_, _], _ => rfl
  have G__law_dice : GD prog w K mg base "_law_dice" 2 (spDice K) := ⟨_, _, _, PySem.W.mg_of X G at12, kt12, Bt12, PF.ok_dice Ft12 fr⟩
  have Ft13 := fun_mk (st := topS 33) lt13 ct13 kt13
  have Bt13 := Ft13.binds (ps := ["_law_dice_here", "_law_total"]) fun _ _ _ _ _ _ us hl => match us, hl with | [_, _], _ => rfl
  have G__law_roll : GD prog w K mg base "_law_roll" 2 spRoll := ⟨_, _, _, PySem.W.mg_of X G at13, kt13, Bt13, PF.ok_roll Ft13 fr⟩
  have Ft14 := fun_mk (st := topS 34) lt14 ct14 kt14
  have Bt14 := Ft14.binds (ps := ["_law_dice_here", "_law_items"]) fun _ _ _ _ _ _ us hl => match us, hl with | [_, _], _ => rfl
  have G__law_pick : GD prog w K mg base "_law_pick" 3 spPick := ⟨_, _, _, PySem.W.mg_of X G at14, kt14, Bt14, PF.ok_pick Ft14 fr G__law_roll⟩
  have OF : OdT K CF := ⟨fun t ht => by
    simp only [List.mem_cons, List.not_mem_nil, or_false] at ht
    rcases ht with rfl | rfl | rfl | rfl | rfl | rfl | rfl
    · exact ⟨kit_own rfl icF tyF suF_int, nf_of suF_int⟩
    · exact ⟨kit_own rfl icF tyF suF_bool, nf_of suF_bool⟩
    · exact ⟨kit_own rfl icF tyF suF_str, nf_of suF_str⟩
    · exact ⟨kit_own rfl icF tyF suF_NoneType, nf_of suF_NoneType⟩
    · exact ⟨kit_own rfl icF tyF suF_list, nf_of suF_list⟩
    · exact ⟨kit_own rfl icF tyF suF_tuple, nf_of suF_tuple⟩
    · exact ⟨kit_own rfl icF tyF suF_dict, nf_of suF_dict⟩⟩
  have X_InvalidNumber : GX K mg "InvalidNumber" A_InvalidNumber := ⟨xe_InvalidNumber, PySem.W.mg_of X G xa_InvalidNumber, xk_InvalidNumber, xs_InvalidNumber, xt_InvalidNumber⟩
  have R_form_in : GR prog w K mg base "form_in" 4 (spOfF K mg flE (aCons (rUn (rDt K) (rNum CN)) (aCons (rUn (rDt K) (rNum CN)) (aCons (rUn (rDt K) (rNum CN)) (aCons (rUn (rDt K) (rNum CN)) aNil)))) rAny m_form_in_X) := ⟨_, _, _, PySem.W.mg_of X G at7, kt7, Bt7, PF2.ok_form_in_X Ft7 TN OF iNF fr G_is_whole_V X_InvalidNumber G_is_root⟩
  have okNX := PF2.ok_Number___init___X (P := prog) (w := w) (base := base) Fni R_form_in
  have GX_Number1 : GMX prog w K mg base "Number" CN 5 [.int 0, .int 0, .int 1] (spOfF K mg flE (aCons rAny (aCons (rUn (rDt K) (rNum CN)) (aCons (rUn (rDt K) (rNum CN)) (aCons (rUn (rDt K) (rNum CN)) (aCons (rUn (rDt K) (rNum CN)) aNil))))) rNon m_Number___init___X) := ⟨_, _, _, _, PySem.W.mg_of X G aN, MkN, Bni, rds, okNX⟩
  obtain ⟨ds2, rds2, Bni2⟩ := num_binds2 Fni
  have GX_Number2 : GMX prog w K mg base "Number" CN 5 [.int 0, .int 1] (spOfF K mg flE (aCons rAny (aCons (rUn (rDt K) (rNum CN)) (aCons (rUn (rDt K) (rNum CN)) (aCons (rUn (rDt K) (rNum CN)) (aCons (rUn (rDt K) (rNum CN)) aNil))))) rNon m_Number___init___X) := ⟨_, _, _, _, PySem.W.mg_of X G aN, MkN, Bni2, rds2, okNX⟩
  have GX_NumberR : GMKX prog w K mg base "Number" CN 5 2 ["root"] (fun vs zs => vs ++ zs ++ [V.int 1]) (spOfF K mg flE (aCons rAny (aCons (rUn (rDt K) (rNum CN)) (aCons (rUn (rDt K) (rNum CN)) (aCons (rUn (rDt K) (rNum CN)) (aCons (rUn (rDt K) (rNum CN)) aNil))))) rNon m_Number___init___X) := ⟨_, _, _, _, PySem.W.mg_of X G aN, MkN, K_Number2root, okNX⟩
  have GX_NumberB : GMKX prog w K mg base "Number" CN 5 1 ["bottom"] (fun vs zs => vs ++ [V.int 0] ++ [V.int 0] ++ zs) (spOfF K mg flE (aCons rAny (aCons (rUn (rDt K) (rNum CN)) (aCons (rUn (rDt K) (rNum CN)) (aCons (rUn (rDt K) (rNum CN)) (aCons (rUn (rDt K) (rNum CN)) aNil))))) rNon m_Number___init___X) := ⟨_, _, _, _, PySem.W.mg_of X G aN, MkN, K_Number1bottom, okNX⟩
  have GX_NumberK : GMKX prog w K mg base "Number" CN 5 2 ["root", "bottom"] (fun vs zs => vs ++ zs) (spOfF K mg flE (aCons rAny (aCons (rUn (rDt K) (rNum CN)) (aCons (rUn (rDt K) (rNum CN)) (aCons (rUn (rDt K) (rNum CN)) (aCons (rUn (rDt K) (rNum CN)) aNil))))) rNon m_Number___init___X) := ⟨_, _, _, _, PySem.W.mg_of X G aN, MkN, Kni, okNX⟩
  have R_required : GR prog w K mg base "required" 9 (spOfF K mg flE (aCons (rUn (rDt K) (rNum CN)) aNil) (rNum CN) m_required_X) := ⟨_, _, _, PySem.W.mg_of X G at10, kt10, Bt10, PF2.ok_required_X Ft10 G_is_like_number_V X_InvalidNumber G_number_of_V⟩
  have R_common_root : GR prog w K mg base "common_root" 2 (spOfF K mg flE (aCons (rNum CN) (aCons (rNum CN) aNil)) rInt m_common_root_X) := ⟨_, _, _, PySem.W.mg_of X G at11, kt11, Bt11, PF2.ok_common_root_X Ft11 TN X_InvalidNumber⟩
  have GMX_compared : GMeX prog w K mg base CN "compared" 10 (spOfF K mg flE (aCons (rNum CN) (aCons (rUn (rDt K) (rNum CN)) aNil)) rInt m_Number_compared_X) := ⟨_, ⟨am_compared, im_compared, km_compared⟩, fnR_ofA (PF2.ok_Number_compared_X Fm_compared R_required R_common_root TN G_sign_of_sum) Bm_compared⟩
  have X_InvalidOperation : GX K mg "InvalidOperation" A_InvalidOperation := ⟨xe_InvalidOperation, PySem.W.mg_of X G xa_InvalidOperation, xk_InvalidOperation, xs_InvalidOperation, xt_InvalidOperation⟩
  have GMX_over : GMeX prog w K mg base CN "over" 10 (spOfF K mg flE (aCons (rNum CN) (aCons (rUn (rDt K) (rNum CN)) aNil)) (rNum CN) m_Number_over_X) := ⟨_, ⟨am_over, im_over, km_over⟩, fnR_ofA (PF2.ok_Number_over_X Fm_over R_required R_common_root TN X_InvalidOperation G_Number G_Form) Bm_over⟩
  have GBX_Add : GBX prog w K mg base CN .Add 9 (spOfF K mg flE (aCons (rNum CN) (aCons (rNum CN) aNil)) (rNum CN) m_Number___add___X) := ⟨⟨_, aadd, iadd, fnR_ofA (PF2.ok_Number___add___X Fadd G_is_like_number_V G_number_of_V R_common_root TN G_Number G_Form) Badd⟩, sfN⟩
  have GBX_Sub : GBX prog w K mg base CN .Sub 9 (spOfF K mg flE (aCons (rNum CN) (aCons (rNum CN) aNil)) (rNum CN) m_Number___sub___X) := ⟨⟨_, asub, isub, fnR_ofA (PF2.ok_Number___sub___X Fsub G_is_like_number_V G_number_of_V R_common_root TN G_Number G_Form) Bsub⟩, sfN⟩
  have GBX_Mult : GBX prog w K mg base CN .Mult 9 (spOfF K mg flE (aCons (rNum CN) (aCons (rNum CN) aNil)) (rNum CN) m_Number___mul___X) := ⟨⟨_, amul, imul, fnR_ofA (PF2.ok_Number___mul___X Fmul G_is_like_number_V G_number_of_V R_common_root TN G_Number G_Form) Bmul⟩, sfN⟩
  have Ft15 := fun_mk (st := topS 26) lt15 ct15 kt15
  have Bt15 := Ft15.binds (ps := ["numbers"]) fun _ _ _ _ _ _ us hl => match us, hl with | [_], _ => rfl
  have G_go_together : GD prog w K mg base "go_together" 2 (spOf (aCons (rTup K (rNum CN)) aNil) rBl m_go_together) := ⟨_, _, _, PySem.W.mg_of X G at15, kt15, Bt15, PF2.ok_go_together Ft15 TN fr⟩
  have Ft16 := fun_mk (st := topS 27) lt16 ct16 kt16
  have Bt16 := Ft16.binds (ps := ["numbers"]) fun _ _ _ _ _ _ us hl => match us, hl with | [_], _ => rfl
  have G_have_one_root : GD prog w K mg base "have_one_root" 3 (spOf (aCons (rTup K (rNum CN)) aNil) rBl m_have_one_root) := ⟨_, _, _, PySem.W.mg_of X G at16, kt16, Bt16, PF2.ok_have_one_root Ft16 fr TN G_go_together⟩
  have R_have_one_root : GR prog w K mg base "have_one_root" 2 (spOfF K mg flE (aCons (rUn (rDt K) (rUn (rLs (rNum CN)) (rTup K (rUn (rDt K) (rNum CN))))) aNil) rBl m_have_one_root_X) := ⟨_, _, _, PySem.W.mg_of X G at16, kt16, Bt16, PF2.ok_have_one_root_X Ft16 fr TN ON X_InvalidNumber⟩
  have Ft17 := fun_mk (st := topS 35) lt17 ct17 kt17
  have Bt17 := Ft17.binds (ps := ["_law_parts"]) fun _ _ _ _ _ _ us hl => match us, hl with | [_], _ => rfl
  have G__law_made : GD prog w K mg base "_law_made" 8 (spOf (aCons (rTx K (aCons rInt (aCons rInt (aCons rInt (aCons rInt aNil))))) aNil) (rNum CN) m__law_made) := ⟨_, _, _, PySem.W.mg_of X G at17, kt17, Bt17, PF2.ok__law_made Ft17 G_NumberK⟩
  have Ft18 := fun_mk (st := topS 36) lt18 ct18 kt18
  have Bt18 := Ft18.binds (ps := ["_law_call"]) fun _ _ _ _ _ _ us hl => match us, hl with | [_], _ => rfl
  have T__law_word : GTh K mg "_law_word" "_law_call" (topS 36) := ⟨⟨_, _, PySem.W.mg_of X G at18, Ft18, Bt18⟩⟩
  have Ft19 := fun_mk (st := topS 37) lt19 ct19 kt19
  have Bt19 := Ft19.binds (ps := ["_law_way", "_law_odd", "_law_root"]) fun _ _ _ _ _ _ us hl => match us, hl with | [_, _, _], _ => rfl
  have R__law_wrong : GR prog w K mg base "_law_wrong" 7 (spOfF K mg flE (aCons rInt (aCons (rUn (rDt K) (rNum CN)) (aCons (rUn (rDt K) (rNum CN)) aNil))) rAny m__law_wrong_X) := ⟨_, _, _, PySem.W.mg_of X G at19, kt19, Bt19, PF2.ok__law_wrong_X Ft19 GX_Number1 GX_NumberR GX_NumberB GX_Number2 GX_NumberK⟩
  have Ft20 := fun_mk (st := topS 39) lt20 ct20 kt20
  have Bt20 := Ft20.binds (ps := ["_law_way", "_law_one", "_law_other"]) fun _ _ _ _ _ _ us hl => match us, hl with | [_, _, _], _ => rfl
  have R__law_used : GR prog w K mg base "_law_used" 11 (spOfF K mg flE (aCons rInt (aCons (rNum CN) (aCons (rUn (rDt K) (rNum CN)) aNil))) rAny m__law_used_X) := ⟨_, _, _, PySem.W.mg_of X G at20, kt20, Bt20, PF2.ok__law_used_X Ft20 GBX_Add GBX_Sub GBX_Mult TN GMX_over GMX_compared⟩
  have Ft21 := fun_mk (st := topS 38) lt21 ct21 kt21
  have Bt21 := Ft21.binds (ps := ["_law_dice_here"]) fun _ _ _ _ _ _ us hl => match us, hl with | [_], _ => rfl
  subst vt21
  have FCt21 : FunC K "_law_makes" "_law_makes" (topS 38) ft21 _ 420 := ⟨⟨_, _, _, _, _, _, _, _, rfl, lt21, ct21⟩⟩
  have G__law_makes : GG prog w K mg base "_law_makes" 12 1 (spOfDT aNil rBl m__law_makes) := ⟨_, PySem.W.mg_of X G at21, kt21, PF2.ok__law_makes FCt21 Bt21 G_Number G__law_pick TN ON G_eq fr R__law_wrong T__law_word (hTB (420, 416) (by decide)) X_InvalidNumber E_InvalidNumber_InvalidNumber X_InvalidOperation E_InvalidOperation_InvalidNumber E_InvalidOperation_InvalidOperation G_NumberK P_top P_part P_root P_bottom G_Number2root⟩
  have Ft22 := fun_mk (st := topS 40) lt22 ct22 kt22
  have Bt22 := Ft22.binds (ps := ["_law_dice_here"]) fun _ _ _ _ _ _ us hl => match us, hl with | [_], _ => rfl
  subst vt22
  have FCt22 : FunC K "_law_reckons" "_law_reckons" (topS 40) ft22 _ 434 := ⟨⟨_, _, _, _, _, _, _, _, rfl, lt22, ct22⟩⟩
  have G__law_reckons : GG prog w K mg base "_law_reckons" 16 1 (spOfDT aNil rBl m__law_reckons) := ⟨_, PySem.W.mg_of X G at22, kt22, PF2.ok__law_reckons FCt22 Bt22 G__law_pick G__law_made fr R__law_used T__law_word (hTB (434, 430) (by decide)) X_InvalidNumber E_InvalidNumber_InvalidNumber X_InvalidOperation E_InvalidOperation_InvalidNumber E_InvalidOperation_InvalidOperation G_sub G_Number1bottom G_Number TN GMX_over⟩
  have Ft23 := fun_mk (st := topS 41) lt23 ct23 kt23
  have Bt23 := Ft23.binds (ps := ["_law_dice_here"]) fun _ _ _ _ _ _ us hl => match us, hl with | [_], _ => rfl
  subst vt23
  have FCt23 : FunC K "_law_together" "_law_together" (topS 41) ft23 _ 439 := ⟨⟨_, _, _, _, _, _, _, _, rfl, lt23, ct23⟩⟩
  have G__law_together : GG prog w K mg base "_law_together" 10 1 (spOfDT aNil rBl m__law_together) := ⟨_, PySem.W.mg_of X G at23, kt23, PF2.ok__law_together FCt23 Bt23 fr G__law_roll G__law_pick G_Number2root G_have_one_root R_have_one_root T__law_word (hTB (439, 437) (by decide)) X_InvalidNumber E_InvalidNumber_InvalidNumber X_InvalidOperation E_InvalidOperation_InvalidNumber E_InvalidOperation_InvalidOperation⟩
  have Ft24 := fun_mk (st := topS 42) lt24 ct24 kt24
  have Bt24 := Ft24.binds (ps := ["_law_script"]) fun _ _ _ _ _ _ us hl => match us, hl with | [_], _ => rfl
  exact PF2.ok_law Ft24 Bt24 G__law_dice fr G__law_makes G__law_reckons G__law_together ⟨_, PySem.W.mg_of X G gMAX_ROOT⟩ G_have_one_root
end PF2
namespace PF
open PySem PySem.Spec PyProof.Rows L2 SlX
end PF
set_option maxHeartbeats 0
namespace PH
open PF PF2 PySem PySem.Spec PyProof.Rows L2 SlX
theorem all5 {prog : Program} {w : World} {K : PySem.W.Frag} {h : Heap} {mg : Str → Option Value} {fa : Addr} (X : K.In h) (G : h.Ns mainGlobals mg) (hfa : mg "law" = some (.ref fa)) (hb : bx K = true) (hv : fx K = vx)
    : ∀ base : Heap, K.In base → base.Ns mainGlobals mg → (∀ p ∈ tbC, LamX.TabB base mg p.1 p.2) → FnG prog w K mg base 17 fa 1 (spLaw K) := by
  simp only [bx, Bool.and_eq_true] at hb
  obtain ⟨hp0, hp1, hp2, hp3⟩ := hb
  simp only [bp0, Bool.and_eq_true] at hp0
  obtain ⟨hb0, hb4, hb8, hb12, _⟩ := hp0
  simp only [bp1, Bool.and_eq_true] at hp1
  obtain ⟨hb1, hb5, hb9, hb13, _⟩ := hp1
  simp only [bp2, Bool.and_eq_true] at hp2
  obtain ⟨hb2, hb6, hb10, _⟩ := hp2
  simp only [bp3, Bool.and_eq_true] at hp3
  obtain ⟨hb3, hb7, hb11, _⟩ := hp3
  simp only [bx0, Bool.and_eq_true, decide_eq_true_eq] at hb0
  obtain ⟨z_abs, z_all, z_bool, z_int, z_isinstance, z_len, z_list, z_max, z_min, z_range, z_repr, z_set, z_str, z_tuple, cn, ct, aN, aF, pgN, icN, _⟩ := hb0
  simp only [bx1, Bool.and_eq_true, decide_eq_true_eq] at hb1
  obtain ⟨poN, saN, caN, cmN, mkN, kcN, pgF, icF, poF, saF, caF, cmF, mkF, kcF, saNtop, sgNtop, stNtop, syNtop, sxNtop, saNpart, _⟩ := hb1
  simp only [bx2, Bool.and_eq_true, decide_eq_true_eq] at hb2
  obtain ⟨sgNpart, stNpart, syNpart, sxNpart, saNroot, sgNroot, stNroot, syNroot, sxNroot, saNbottom, sgNbottom, stNbottom, syNbottom, sxNbottom, saFtop, sgFtop, stFtop, syFtop, sxFtop, saFpart, _⟩ := hb2
  simp only [bx3, Bool.and_eq_true, decide_eq_true_eq] at hb3
  obtain ⟨sgFpart, stFpart, syFpart, sxFpart, saFroot, sgFroot, stFroot, syFroot, sxFroot, saFbottom, sgFbottom, stFbottom, syFbottom, sxFbottom, tyN, tyF, suF, suI, suN, at0, _⟩ := hb3
  simp only [bx4, Bool.and_eq_true, decide_eq_true_eq] at hb4
  obtain ⟨ct0, kt0, iN_bool, at1, ct1, kt1, at2, ct2, kt2, at3, ct3, kt3, at4, ct4, kt4, at5, ct5, kt5, at6, ct6, _⟩ := hb4
  simp only [bx5, Bool.and_eq_true, decide_eq_true_eq] at hb5
  obtain ⟨kt6, afi, cfi, kfi, ifi, at7, ct7, kt7, ani, Dlni, cni, kni, ini, lT, nDr, nDb, at8, ct8, kt8, suN_int, _⟩ := hb5
  simp only [bx6, Bool.and_eq_true, decide_eq_true_eq] at hb6
  obtain ⟨suN_bool, suN_str, suN_NoneType, suN_list, suN_tuple, suN_dict, at9, ct9, kt9, at10, ct10, kt10, at11, ct11, kt11, aadd, cadd, kadd, iadd, rcadd, _⟩ := hb6
  simp only [bx7, Bool.and_eq_true, decide_eq_true_eq] at hb7
  obtain ⟨foadd, roadd, sfN, asub, csub, ksub, isub, rcsub, fosub, rosub, amul, cmul, kmul, imul, rcmul, fomul, romul, am_over, cm_over, km_over, _⟩ := hb7
  simp only [bx8, Bool.and_eq_true, decide_eq_true_eq] at hb8
  obtain ⟨im_over, am_compared, cm_compared, km_compared, im_compared, ap_sign, sp_sign, tp_sign, rp_sign, cp_sign, kp_sign, ap_top, sp_top, tp_top, rp_top, cp_top, kp_top, ap_part, sp_part, tp_part, _⟩ := hb8
  simp only [bx9, Bool.and_eq_true, decide_eq_true_eq] at hb9
  obtain ⟨rp_part, cp_part, kp_part, ap_root, sp_root, tp_root, rp_root, cp_root, kp_root, ap_bottom, sp_bottom, tp_bottom, rp_bottom, cp_bottom, kp_bottom, aeq, ceq, keq, ieq, ne, _⟩ := hb9
  simp only [bx10, Bool.and_eq_true, decide_eq_true_eq] at hb10
  obtain ⟨astr, cstr, kstr, istr, at12, ct12, kt12, at13, ct13, kt13, at14, ct14, kt14, suF_int, suF_bool, suF_str, suF_NoneType, suF_list, suF_tuple, suF_dict, _⟩ := hb10
  simp only [bx11, Bool.and_eq_true, decide_eq_true_eq] at hb11
  obtain ⟨iNF, xa_InvalidNumber, xe_InvalidNumber, xk_InvalidNumber, xs_InvalidNumber, xt_InvalidNumber, xa_InvalidOperation, xe_InvalidOperation, xk_InvalidOperation, xs_InvalidOperation, xt_InvalidOperation, at15, ct15, kt15, at16, ct16, kt16, at17, ct17, kt17, _⟩ := hb11
  simp only [bx12, Bool.and_eq_true, decide_eq_true_eq] at hb12
  obtain ⟨at18, ct18, kt18, at19, ct19, kt19, at20, ct20, kt20, at21, ct21, kt21, vt21, E_InvalidNumber_InvalidNumber, E_InvalidOperation_InvalidNumber, E_InvalidOperation_InvalidOperation, at22, ct22, kt22, vt22, _⟩ := hb12
  simp only [bx13, Bool.and_eq_true, decide_eq_true_eq] at hb13
  obtain ⟨at23, ct23, kt23, vt23, at24, ct24, kt24, gLEAST_ROOT, gMAX_ROOT, _⟩ := hb13
  simp only [fx, vx, fx0, vx0, fx1, vx1, List.cons_append, List.nil_append, List.append_nil, List.cons.injEq, and_true] at hv
  obtain ⟨lt0, lt1, lt2, lt3, lt4, lt5, lt6, lfi, lt7, lni, lt8, lt9, lt10, lt11, ladd, lsub, lmul, lm_over, lm_compared, lp_sign, lp_top, lp_part, lp_root, lp_bottom, leq, lstr, lt12, lt13, lt14, lt15, lt16, lt17, lt18, lt19, lt20, lt21, lt22, lt23, lt24⟩ := hv
  obtain ⟨_, _, _, _, _, _, _, _, lt0⟩ := PHD.fw_ok lt0
  obtain ⟨_, _, _, _, _, _, _, _, lt1⟩ := PHD.fw_ok lt1
  obtain ⟨_, _, _, _, _, _, _, _, lt2⟩ := PHD.fw_ok lt2
  obtain ⟨_, _, _, _, _, _, _, _, lt3⟩ := PHD.fw_ok lt3
  obtain ⟨_, _, _, _, _, _, _, _, lt4⟩ := PHD.fw_ok lt4
  obtain ⟨_, _, _, _, _, _, _, _, lt5⟩ := PHD.fw_ok lt5
  obtain ⟨_, _, _, _, _, _, _, _, lt6⟩ := PHD.fw_ok lt6
  obtain ⟨_, _, _, _, _, _, _, _, lfi⟩ := PHD.fw_ok lfi
  obtain ⟨_, _, _, _, _, _, _, _, lt7⟩ := PHD.fw_ok lt7
  obtain ⟨_, _, _, _, _, _, _, lni⟩ := PHD.fwN_ok lni Dlni
  obtain ⟨_, _, _, _, _, lT⟩ := PHD.seq_ok lT
  obtain ⟨_, nDr⟩ := PHD.intN_ok nDr
  obtain ⟨_, nDb⟩ := PHD.intN_ok nDb
  obtain ⟨_, _, _, _, _, _, _, _, lt8⟩ := PHD.fw_ok lt8
  obtain ⟨_, _, _, _, _, _, _, _, lt9⟩ := PHD.fw_ok lt9
  obtain ⟨_, _, _, _, _, _, _, _, lt10⟩ := PHD.fw_ok lt10
  obtain ⟨_, _, _, _, _, _, _, _, lt11⟩ := PHD.fw_ok lt11
  obtain ⟨_, _, _, _, _, _, _, _, ladd⟩ := PHD.fw_ok ladd
  obtain ⟨_, foadd⟩ := PHD.some_ok foadd
  obtain ⟨_, roadd⟩ := PHD.some_ok roadd
  obtain ⟨_, _, _, _, _, _, _, _, lsub⟩ := PHD.fw_ok lsub
  obtain ⟨_, fosub⟩ := PHD.some_ok fosub
  obtain ⟨_, rosub⟩ := PHD.some_ok rosub
  obtain ⟨_, _, _, _, _, _, _, _, lmul⟩ := PHD.fw_ok lmul
  obtain ⟨_, fomul⟩ := PHD.some_ok fomul
  obtain ⟨_, romul⟩ := PHD.some_ok romul
  obtain ⟨_, _, _, _, _, _, _, _, lm_over⟩ := PHD.fw_ok lm_over
  obtain ⟨_, _, _, _, _, _, _, _, lm_compared⟩ := PHD.fw_ok lm_compared
  obtain ⟨_, rp_sign⟩ := PHD.rec_ok rp_sign
  obtain ⟨_, _, _, _, _, _, _, _, lp_sign⟩ := PHD.fw_ok lp_sign
  obtain ⟨_, rp_top⟩ := PHD.rec_ok rp_top
  obtain ⟨_, _, _, _, _, _, _, _, lp_top⟩ := PHD.fw_ok lp_top
  obtain ⟨_, rp_part⟩ := PHD.rec_ok rp_part
  obtain ⟨_, _, _, _, _, _, _, _, lp_part⟩ := PHD.fw_ok lp_part
  obtain ⟨_, rp_root⟩ := PHD.rec_ok rp_root
  obtain ⟨_, _, _, _, _, _, _, _, lp_root⟩ := PHD.fw_ok lp_root
  obtain ⟨_, rp_bottom⟩ := PHD.rec_ok rp_bottom
  obtain ⟨_, _, _, _, _, _, _, _, lp_bottom⟩ := PHD.fw_ok lp_bottom
  obtain ⟨_, _, _, _, _, _, _, _, leq⟩ := PHD.fw_ok leq
  obtain ⟨_, _, _, _, _, _, _, _, lstr⟩ := PHD.fw_ok lstr
  obtain ⟨_, _, _, _, _, _, _, _, lt12⟩ := PHD.fw_ok lt12
  obtain ⟨_, _, _, _, _, _, _, _, lt13⟩ := PHD.fw_ok lt13
  obtain ⟨_, _, _, _, _, _, _, _, lt14⟩ := PHD.fw_ok lt14
  obtain ⟨_, _, _, _, _, _, _, _, lt15⟩ := PHD.fw_ok lt15
  obtain ⟨_, _, _, _, _, _, _, _, lt16⟩ := PHD.fw_ok lt16
  obtain ⟨_, _, _, _, _, _, _, _, lt17⟩ := PHD.fw_ok lt17
  obtain ⟨_, _, _, _, _, _, _, _, lt18⟩ := PHD.fw_ok lt18
  obtain ⟨_, _, _, _, _, _, _, _, lt19⟩ := PHD.fw_ok lt19
  obtain ⟨_, _, _, _, _, _, _, _, lt20⟩ := PHD.fw_ok lt20
  obtain ⟨_, _, _, _, _, _, _, _, lt21⟩ := PHD.fw_ok lt21
  obtain ⟨_, _, _, _, _, _, _, _, lt22⟩ := PHD.fw_ok lt22
  obtain ⟨_, _, _, _, _, _, _, _, lt23⟩ := PHD.fw_ok lt23
  obtain ⟨_, _, _, _, _, _, _, _, lt24⟩ := PHD.fw_ok lt24
  obtain ⟨_, gLEAST_ROOT⟩ := PHD.int_ok gLEAST_ROOT
  obtain ⟨_, gMAX_ROOT⟩ := PHD.int_ok gMAX_ROOT
  exact PF2.all_mk X G hfa z_abs z_all z_bool z_int z_isinstance z_len z_list z_max z_min z_range z_repr z_set z_str z_tuple cn ct aN aF pgN icN poN saN caN cmN mkN kcN pgF icF poF saF caF cmF mkF kcF saNtop sgNtop stNtop syNtop sxNtop saNpart sgNpart stNpart syNpart sxNpart saNroot sgNroot stNroot syNroot sxNroot saNbottom sgNbottom stNbottom syNbottom sxNbottom saFtop sgFtop stFtop syFtop sxFtop saFpart sgFpart stFpart syFpart sxFpart saFroot sgFroot stFroot syFroot sxFroot saFbottom sgFbottom stFbottom syFbottom sxFbottom tyN tyF suF suI suN at0 lt0 ct0 kt0 iN_bool at1 lt1 ct1 kt1 at2 lt2 ct2 kt2 at3 lt3 ct3 kt3 at4 lt4 ct4 kt4 at5 lt5 ct5 kt5 at6 lt6 ct6 kt6 afi lfi cfi kfi ifi at7 lt7 ct7 kt7 ani lni cni kni ini lT nDr nDb at8 lt8 ct8 kt8 suN_int suN_bool suN_str suN_NoneType suN_list suN_tuple suN_dict at9 lt9 ct9 kt9 at10 lt10 ct10 kt10 at11 lt11 ct11 kt11 aadd ladd cadd kadd iadd rcadd foadd roadd sfN asub lsub csub ksub isub rcsub fosub rosub amul lmul cmul kmul imul rcmul fomul romul am_over lm_over cm_over km_over im_over am_compared lm_compared cm_compared km_compared im_compared ap_sign sp_sign tp_sign rp_sign lp_sign cp_sign kp_sign ap_top sp_top tp_top rp_top lp_top cp_top kp_top ap_part sp_part tp_part rp_part lp_part cp_part kp_part ap_root sp_root tp_root rp_root lp_root cp_root kp_root ap_bottom sp_bottom tp_bottom rp_bottom lp_bottom cp_bottom kp_bottom aeq leq ceq keq ieq ne astr lstr cstr kstr istr at12 lt12 ct12 kt12 at13 lt13 ct13 kt13 at14 lt14 ct14 kt14 suF_int suF_bool suF_str suF_NoneType suF_list suF_tuple suF_dict iNF xa_InvalidNumber xe_InvalidNumber xk_InvalidNumber xs_InvalidNumber xt_InvalidNumber xa_InvalidOperation xe_InvalidOperation xk_InvalidOperation xs_InvalidOperation xt_InvalidOperation at15 lt15 ct15 kt15 at16 lt16 ct16 kt16 at17 lt17 ct17 kt17 at18 lt18 ct18 kt18 at19 lt19 ct19 kt19 at20 lt20 ct20 kt20 at21 lt21 ct21 kt21 vt21 E_InvalidNumber_InvalidNumber E_InvalidOperation_InvalidNumber E_InvalidOperation_InvalidOperation at22 lt22 ct22 kt22 vt22 at23 lt23 ct23 kt23 vt23 at24 lt24 ct24 kt24 gLEAST_ROOT gMAX_ROOT
end PH
open PySem PySem.W PySem.Calls PyProof.Rows in
set_option maxRecDepth 100000 in
set_option maxHeartbeats 0 in
theorem PySem.Challenge.cw_pieceround_k05_errors_of_numbers_holds : PySem.Challenge.rw_pieceround_k05_errors_of_numbers.Holds := by
  w_on; o_law
  refine HandSHeadRun.head_any (r := OpenLaw.row PySem.Challenge.rw_pieceround_k05_errors_of_numbers) (q := PH.vw) (H := PH.hk) (ob := PHD.obT PH.tbs PH.bx PH.fx) (M := 20000) (loose := PH.nms) (d := HandSHeadRun.topDef (OpenLaw.row PySem.Challenge.rw_pieceround_k05_errors_of_numbers).prog 42) (kwd := []) PHD.obT_eq
    (by kernel_rfl) (fun s => by kernel_rfl) (fun w os => PHD.map3 (PH.r1 w os) (PH.r2 w os) (PH.r34 w os)) (by kernel_rfl) (by kernel_rfl) (by kernel_rfl) (by rfl) (by first | assumption | decide +kernel) (by decide +kernel) ⟨rfl, rfl, rfl, rfl, rfl, by decide +kernel⟩ ?hw ?hc
  case hw => w_witness2
  case hc =>
    refine PF.walk_gT (cs := PF2.tbC) (l := PySem.Challenge.rw_pieceround_k05_errors_of_numbers) (n := 63) (k := 17) rfl (by decide) (by kernel_rfl) ⟨rfl, by decide, by decide⟩ ?F
    intro w mg fa h Y G hmg0
    obtain ⟨K, KX, hT, nT, hC, hb, hv⟩ := Y
    have hmg : mg ("law" : PySem.Str) = some (.ref fa) := by
      have e : (HandSHeadRun.topDef (OpenLaw.row PySem.Challenge.rw_pieceround_k05_errors_of_numbers).prog 42).name = ("law" : PySem.Str) := by kernel_rfl
      rw [← e]
      exact hmg0
    exact ⟨K, PF2.spLaw K, KX, hT, nT, hC, fun G a ns hl _ hG hS => ⟨a, ns, rfl, hS, Nat.le_trans hl (by decide), PF2.tbN_of hG, fun H' => rfl⟩, PH.all5 KX G hmg hb hv⟩
