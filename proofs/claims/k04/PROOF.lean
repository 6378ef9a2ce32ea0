import PyProof.Rows.All
import Wide.All
import OpenK.AllK
import Wide.FinOn
import KE.KStateDown
import HandS.Base
import HandS.Words
import HandS.Head0
import HandS.Head1
import HandS.Head2
import HandS.HeadEnd
import HandS.HeadHook1
import HandS.HeadHook2
import KE.KExcSuper
import KE.KExcInit
import HandS.Call
import HandS.Exc
import HandS.ExcField
import PyProof.InstSpecial
import KE.KOpsOwn
import HandS.ForExc
import HandS.Comp
import HandS.Wide
import HandS.WideBits
import HandS.Slots
import HandS.SlotsOwn
import HandS.MakeKwOnly
import HandS.MakeKw
import HandS.Defaults
import HandS.More
import HandS.IsInst
import HandS.Flow
import HandS.Conv
import HandS.Codes
import PyProof.ReprRoads
import HandS.Lambda
import HandS.Zip
import HandS.NoneIn
import HandS.TupAny
import HandS.TupMul
import HandS.FStr
import HandS.RaiseMore
import PyProof.Rows.Digits
import KE.KIntText
import HandS.StrMore
import HandS.Text
import HandS.Dict
import HandS.DictComp
import HandS.Iter
import KE.GoesEnum
import HandS.Strs
import HandS.SetFor
import HandS.Deep
import HandS.Style
import HandS.WordsDict
import HandS.IterVal
import HandS.ClsMeth
import HandS.OwnEq
import KE.KDictZip
import HandS.OwnIter
import HandS.IterNext
import PyProof.DictUpdate
import PyProof.DictTable
import PyProof.NeKinds
import HandS.Star
import KE.KDictList
import KE.DatumOrd
import HandS.SortKw
import HandS.ListItems
import KE.KFmtOwn
import KE.KOwnIter
import HandS.DictEq
import PyProof.StrLawsLast
import PyProof.Rows.StrDigitsNeg
import KE.GoesZip
import KE.GoesMore
import HandS.TryOnly
import HandS.Small
import HandS.WordsExc
import HandS.TryMany
import PyProof.ExcBaseAll.ValueError
import HandS.ExcInit
import HandS.ExcOwn
import PyProof.StrBlock2
import PyProof.Rows.RegReprOcc
import PySem.Challenge.RW_pieceround_k04_whole_texts_of_numbers
set_option Elab.async false
set_option linter.all false
set_option maxRecDepth 100000
namespace PF
open PySem PySem.Spec PyProof.Rows
def topS (i : Nat) : Stmt := PySem.Challenge.pw_pieceround_k04_whole_texts_of_numbers.main.body.getD i (.Pass ⟨0, 0, 0, 0⟩)
end PF
set_option maxHeartbeats 1000000
namespace PHD
open PySem PySem.Spec PyProof.Rows L2
abbrev FwT : Type := Option (Str × Str × Arguments × FuncBody × Scope × Addr × List (Str × Addr) × Addr × Value)
def fw (K : PySem.W.Frag) (f : Addr) : FwT := match K.lookup f with
  | some ⟨_, _, .func fd, _⟩ => some (fd.name, fd.qualname, fd.params, fd.body, fd.scope, fd.globals, fd.closure, fd.builtins, fd.defaults)
  | _ => none
def fcode (K : PySem.W.Frag) (f : Addr) : Value := match K.lookup f with
  | some ⟨_, _, .func fd, _⟩ => fd.code
  | _ => .none
def fwV (n q : Str) (a : Arguments) (b : List Stmt) (s : Scope) : FwT := some (n, q, a, .stmts b, s, mainGlobals, [], builtinsNs, .none)
theorem fw_ok {K : PySem.W.Frag} {f : Addr} {n q : Str} {a : Arguments} {b : List Stmt} {s : Scope} (e : fw K f = fwV n q a b s) :
    ∃ oc od kV dc pm an ct sl, K.lookup f = some ⟨oc, od, .func (PySem.W.fnOf n q a b s .none kV dc pm an (fcode K f) ct), sl⟩ := by
  unfold fw at e
  unfold fcode
  cases h : K.lookup f with
  | none => rw [h] at e; cases e
  | some o =>
    obtain ⟨oc, od, dt, sl⟩ := o
    rw [h] at e
    cases dt with
    | func fd =>
      obtain ⟨n1, n2, n3, n4, n5, n6, n7, n8, n9, n10, n11, n12, n13, n14, n15⟩ := fd
      have e2 : (some (n1, n2, n3, n4, n5, n6, n7, n15, n8) : FwT) = some (n, q, a, .stmts b, s, mainGlobals, [], builtinsNs, .none) := e
      simp only [Option.some.injEq, Prod.mk.injEq] at e2
      obtain ⟨h1, h2, h3, h4, h5, h6, h7, h8, h9⟩ := e2
      subst h1 h2 h3 h4 h5 h6 h7 h8 h9
      exact ⟨oc, od, n9, n10, n11, n12, n14, sl, rfl⟩
    | _ => cases e
def recHd (K : PySem.W.Frag) (d : Addr) (T : String) : Addr := match PySem.W.recIn K d T with
  | some (.ref f :: _) => f
  | _ => 0
def recB (K : PySem.W.Frag) (d : Addr) (T : String) : Bool := match PySem.W.recIn K d T with
  | some (.ref _ :: _) => true
  | _ => false
theorem rec_ok {K : PySem.W.Frag} {d : Addr} {T : String} (h : recB K d T = true) : ∃ r, PySem.W.recIn K d T = some (.ref (recHd K d T) :: r) := by
  unfold recB at h
  unfold recHd
  split at h
  · rename_i f r e
    exact ⟨r, by rw [e]⟩
  · cases h
def cmAd (K : PySem.W.Frag) (C : Addr) (m : Str) : Addr := match PySem.W.findCls K (.ref C) (.type "type") m with
  | some (.get _ (.ref d) _ _) => d
  | _ => 0
def cmB (K : PySem.W.Frag) (C : Addr) (m : Str) : Bool := match PySem.W.findCls K (.ref C) (.type "type") m with
  | some (.get (.builtin b) (.ref _) .none (.ref c)) => b == "classmethod.__get__" && decide (c = C)
  | _ => false
theorem cm_ok {K : PySem.W.Frag} {C : Addr} {m : Str} (h : cmB K C m = true) : PySem.W.findCls K (.ref C) (.type "type") m = some (.get (.builtin "classmethod.__get__") (.ref (cmAd K C m)) .none (.ref C)) := by
  unfold cmB at h
  unfold cmAd
  split at h
  · rename_i b d c e
    rw [Bool.and_eq_true, beq_iff_eq, decide_eq_true_eq] at h
    obtain ⟨rfl, rfl⟩ := h
    rw [e]
  · cases h
def intB (K : PySem.W.Frag) (x : Str) (i : Int) : Bool := match PySem.W.nsIn K mainGlobals x with
  | some (some (.int j _)) => decide (j = i)
  | _ => false
theorem int_ok {K : PySem.W.Frag} {x : Str} {i : Int} (h : intB K x i = true) : ∃ t, PySem.W.nsIn K mainGlobals x = some (some (.int i t)) := by
  unfold intB at h
  split at h
  · rename_i j t e
    exact ⟨t, by rw [e, of_decide_eq_true h]⟩
  · cases h
def strB (K : PySem.W.Frag) (x z : Str) : Bool := match PySem.W.nsIn K mainGlobals x with
  | some (some (.str j _)) => decide (j = z)
  | _ => false
theorem str_ok {K : PySem.W.Frag} {x z : Str} (h : strB K x z = true) : ∃ t, PySem.W.nsIn K mainGlobals x = some (some (.str z t)) := by
  unfold strB at h
  split at h
  · rename_i j t e
    exact ⟨t, by rw [e, of_decide_eq_true h]⟩
  · cases h
def lv (g : Addr → Option Obj) (as : List Addr) : List Addr := as.flatMap fun a => match g a with
  | some o => He.refsD o
  | none => []
def asL (g : Addr → Option Obj) : List Addr := [mainGlobals, cStatics] ++ lv g [mainGlobals] ++ lv g (lv g [mainGlobals]) ++ lv g (lv g (lv g [mainGlobals])) ++ lv g (lv g (lv g (lv g [mainGlobals]))) ++ lv g (lv g (lv g (lv g (lv g [mainGlobals]))))
def hookN (bx : PySem.W.Frag → Bool) (fx : PySem.W.Frag → List FwT) (vx : List FwT) : PySem.W.Hook where
  α := Bool × List FwT
  obs := fun s => (bx (He.frG s.heap.get? (asL s.heap.get?)), fx (He.frG s.heap.get? (asL s.heap.get?)))
  val := fun _ => (true, vx)
  says := fun _ h => ∃ K : PySem.W.Frag, K.In h ∧ bx K = true ∧ fx K = vx
  of := fun _ _ e => ⟨_, He.frG_in, congrArg Prod.fst e, congrArg Prod.snd e⟩
  keeps := fun _ _ _ ⟨K, hK, c⟩ k => ⟨K, PySem.W.Frag.In.keeps hK k, c⟩
noncomputable def obN (bx : PySem.W.Frag → Bool) (fx : PySem.W.Frag → List FwT) (s : PySem.W.SharedT) : Bool × List FwT := (bx (He.frG (HandSHeadRun.getT s) (asL (HandSHeadRun.getT s))), fx (He.frG (HandSHeadRun.getT s) (asL (HandSHeadRun.getT s))))
theorem obN_eq {bx : PySem.W.Frag → Bool} {fx : PySem.W.Frag → List FwT} {vx : List FwT} (s : PySem.W.SharedT) : obN bx fx s = (hookN bx fx vx).obs s.abs := by
  have e : HandSHeadRun.getT s = s.abs.heap.get? := funext (HandSHeadRun.getT_eq s)
  unfold obN
  rw [e] <;> rfl
theorem map3 {α β γ δ : Type} {o : Option α} {f : α → β} {g : α → γ} {h : α → δ} {a : β} {b : γ} {c : δ} (e1 : o.map f = some a) (e2 : o.map g = some b) (e3 : o.map h = some c) : o.map (fun s => (f s, g s, h s)) = some (a, b, c) := by
  cases o with
  | none => cases e1
  | some x =>
    simp only [Option.map_some, Option.some.injEq] at e1 e2 e3 ⊢
    rw [e1, e2, e3]
theorem map2 {α β γ : Type} {o : Option α} {f : α → β} {g : α → γ} {a : β} {b : γ} (e1 : o.map f = some a) (e2 : o.map g = some b) : o.map (fun s => (f s, g s)) = some (a, b) := by
  cases o with
  | none => cases e1
  | some x =>
    simp only [Option.map_some, Option.some.injEq] at e1 e2 ⊢
    rw [e1, e2]
def fwN (K : PySem.W.Frag) (f : Addr) : FwT := match K.lookup f with
  | some ⟨_, _, .func fd, _⟩ => some (fd.name, fd.qualname, fd.params, fd.body, fd.scope, fd.globals, fd.closure, fd.builtins, .none)
  | _ => none
def dflA (K : PySem.W.Frag) (f : Addr) : Addr := match K.lookup f with
  | some ⟨_, _, .func fd, _⟩ => (match fd.defaults with | .ref a => a | _ => 0)
  | _ => 0
def kwdA (K : PySem.W.Frag) (f : Addr) : Addr := match K.lookup f with
  | some ⟨_, _, .func fd, _⟩ => (match fd.kwdefaults with | .ref a => a | _ => 0)
  | _ => 0
def isRef : Value → Bool
  | .ref _ => true
  | _ => false
def dkB (K : PySem.W.Frag) (f : Addr) : Bool := match K.lookup f with
  | some ⟨_, _, .func fd, _⟩ => isRef fd.defaults && isRef fd.kwdefaults
  | _ => false
theorem fwN_ok {K : PySem.W.Frag} {f : Addr} {n q : Str} {a : Arguments} {b : List Stmt} {s : Scope} (e : fwN K f = fwV n q a b s) (d : dkB K f = true) :
    ∃ oc od dc pm an ct sl, K.lookup f = some ⟨oc, od, .func (PySem.W.fnOf n q a b s (.ref (dflA K f)) (.ref (kwdA K f)) dc pm an (fcode K f) ct), sl⟩ := by
  unfold fwN at e
  unfold dkB at d
  unfold fcode dflA kwdA
  cases h : K.lookup f with
  | none => rw [h] at e; cases e
  | some o =>
    obtain ⟨oc, od, dt, sl⟩ := o
    rw [h] at e d
    cases dt with
    | func fd =>
      obtain ⟨n1, n2, n3, n4, n5, n6, n7, n8, n9, n10, n11, n12, n13, n14, n15⟩ := fd
      have e2 : (some (n1, n2, n3, n4, n5, n6, n7, n15, .none) : FwT) = some (n, q, a, .stmts b, s, mainGlobals, [], builtinsNs, .none) := e
      have d2 : (isRef n8 && isRef n9) = true := d
      simp only [Option.some.injEq, Prod.mk.injEq] at e2
      obtain ⟨h1, h2, h3, h4, h5, h6, h7, h8, _⟩ := e2
      subst h1 h2 h3 h4 h5 h6 h7 h8
      cases n8 with
      | ref a8 =>
        cases n9 with
        | ref a9 => exact ⟨oc, od, n10, n11, n12, n14, sl, rfl⟩
        | _ => cases d2
      | _ => cases n9 <;> cases d2
    | _ => cases e
def seqB (K : PySem.W.Frag) (a : Addr) (i : Int) : Bool := match K.lookup a with
  | some ⟨_, _, .seq its _, _⟩ => (match its.toList with | [.int j _] => decide (j = i) | _ => false)
  | _ => false
theorem seq_ok {K : PySem.W.Frag} {a : Addr} {i : Int} (h : seqB K a i = true) : ∃ oc od t n sl, K.lookup a = some ⟨oc, od, .seq #[.int i t] n, sl⟩ := by
  unfold seqB at h
  split at h
  · rename_i oc od its n sl e
    split at h
    · rename_i j t e2
      have e3 : its = #[.int j t] := by
        apply Array.ext'
        rw [e2]
      exact ⟨oc, od, t, n, sl, by rw [e, e3, of_decide_eq_true h]⟩
    · cases h
  · cases h
def intN (K : PySem.W.Frag) (a : Addr) (x : Str) (i : Int) : Bool := match PySem.W.nsIn K a x with
  | some (some (.int j _)) => decide (j = i)
  | _ => false
theorem intN_ok {K : PySem.W.Frag} {a : Addr} {x : Str} {i : Int} (h : intN K a x i = true) : ∃ t, PySem.W.nsIn K a x = some (some (.int i t)) := by
  unfold intN at h
  split at h
  · rename_i j t e
    exact ⟨t, by rw [e, of_decide_eq_true h]⟩
  · cases h
theorem some_ok {α : Type} {o : Option α} (h : o.isSome = true) : ∃ v, o = some v := by
  cases o with
  | none => cases h
  | some v => exact ⟨v, rfl⟩
theorem map_and {α : Type} {o : Option α} {f g : α → Bool} (e1 : o.map f = some true) (e2 : o.map g = some true) : o.map (fun s => f s && g s) = some true := by
  cases o with
  | none => cases e1
  | some x =>
    simp only [Option.map_some, Option.some.injEq] at e1 e2 ⊢
    rw [e1, e2]; rfl
end PHD
namespace PEO
open PySem PySem.Spec PyProof.Rows L2
abbrev FwT : Type := Option (Str × Str × Arguments × FuncBody × Scope × Addr × List (Str × Addr) × Addr × Value)
def errB (K : PySem.W.Frag) (C : Addr) (bm : List Value) (newId : String) : Bool := match K.lookup C with
  | some ⟨.type "type", _, .cls cd, sl⟩ => (match sl.toList with
    | [_, _, _, _, some (.builtin n), _] => n == newId && !cd.hasDel && cd.hasDict && decide (cd.mro = .ref C :: bm)
    | _ => false)
  | _ => false
theorem errB_ok {K : PySem.W.Frag} {C : Addr} {bm : List Value} {newId : String} (e : errB K C bm newId = true) :
    ∃ nm q N bs sn sub ab col dd k0 k1 k2 k3 k5, K.lookup C = some (excClassObj nm q C N bs bm true sn sub ab col dd k0 k1 k2 k3 k5 newId) := by
  unfold errB at e
  split at e
  · rename_i dd cd sl ho
    split at e
    · rename_i k0 k1 k2 k3 n k5 hs
      simp only [Bool.and_eq_true, beq_iff_eq, Bool.not_eq_true', decide_eq_true_eq] at e
      obtain ⟨⟨⟨hn, hd⟩, hh⟩, hm⟩ := e
      subst hn
      obtain ⟨nm, bs, mro, ns, qn, hdct, sn, sb, ab, col, del⟩ := cd
      dsimp only at hd hh hm
      subst hd hh hm
      have es : sl = #[k0, k1, k2, k3, some (.builtin n), k5] := by
        apply Array.ext'
        rw [hs]
      subst es
      exact ⟨nm, qn, ns, bs, sn, sb, ab, col, dd, k0, k1, k2, k3, k5, ho⟩
    · cases e
  · cases e
def cellA (K : PySem.W.Frag) (f : Addr) : Addr := match K.lookup f with
  | some ⟨_, _, .func fd, _⟩ => (match fd.closure with | [(_, c)] => c | _ => 0)
  | _ => 0
def codeA (K : PySem.W.Frag) (f : Addr) : Addr := match K.lookup f with
  | some ⟨_, _, .func fd, _⟩ => (match fd.code with | .ref c => c | _ => 0)
  | _ => 0
def fwC (K : PySem.W.Frag) (f : Addr) : FwT := match K.lookup f with
  | some ⟨_, _, .func fd, _⟩ => some (fd.name, fd.qualname, fd.params, fd.body, fd.scope, fd.globals, fd.closure.map fun p => (p.1, 0), fd.builtins, fd.defaults)
  | _ => none
def fwCV (n q : Str) (a : Arguments) (b : List Stmt) (s : Scope) : FwT := some (n, q, a, .stmts b, s, mainGlobals, [("__class__", 0)], builtinsNs, .none)
def codeB (K : PySem.W.Frag) (f : Addr) : Bool := match K.lookup f with
  | some ⟨_, _, .func fd, _⟩ => (match fd.code with | .ref _ => true | _ => false)
  | _ => false
theorem fwC_ok {K : PySem.W.Frag} {f : Addr} {n q : Str} {a : Arguments} {b : List Stmt} {s : Scope} (e : fwC K f = fwCV n q a b s) (c : codeB K f = true) :
    ∃ oc od sl kV dc pm an ct, K.lookup f = some ⟨oc, od, .func (PySem.W.ksFn n q a b s .none kV dc pm an (.ref (codeA K f)) ct (cellA K f)), sl⟩ := by
  unfold fwC at e
  unfold codeB at c
  unfold codeA cellA
  cases h : K.lookup f with
  | none => rw [h] at e; cases e
  | some o =>
    obtain ⟨oc, od, dt, sl⟩ := o
    rw [h] at e c
    cases dt with
    | func fd =>
      obtain ⟨n1, n2, n3, n4, n5, n6, n7, n8, n9, n10, n11, n12, n13, n14, n15⟩ := fd
      have e2 : (some (n1, n2, n3, n4, n5, n6, n7.map (fun p => (p.1, 0)), n15, n8) : FwT) = (some (n, q, a, FuncBody.stmts b, s, mainGlobals, [(("__class__" : Str), 0)], builtinsNs, Value.none) : FwT) := e
      simp only [Option.some.injEq, Prod.mk.injEq] at e2
      obtain ⟨h1, h2, h3, h4, h5, h6, h7, h8, h9⟩ := e2
      subst h1 h2 h3 h4 h5 h6 h8 h9
      dsimp only at c ⊢
      cases n7 with
      | nil =>
        have := congrArg List.length h7
        simp at this
      | cons p l =>
        cases l with
        | cons p2 l =>
          have := congrArg List.length h7
          simp at this
        | nil =>
          obtain ⟨pn, pc⟩ := p
          simp only [List.map_cons, List.map_nil, List.cons.injEq, Prod.mk.injEq, and_true] at h7
          obtain rfl := h7
          split at c
          · rename_i cx hx
            exact ⟨oc, od, sl, n9, n10, n11, n12, n14, rfl⟩
          · cases c
    | _ => cases e
def cellB (K : PySem.W.Frag) (cc C : Addr) : Bool := match K.lookup cc with
  | some ⟨_, _, .cell (some (.ref D)), _⟩ => D == C
  | _ => false
theorem cellB_ok {K : PySem.W.Frag} {cc C : Addr} (e : cellB K cc C = true) : ∃ cl cld csl, K.lookup cc = some ⟨cl, cld, .cell (some (.ref C)), csl⟩ := by
  unfold cellB at e
  split at e
  · rename_i a b D s h
    rw [beq_iff_eq] at e
    subst e
    exact ⟨_, _, _, h⟩
  · cases e
def fileB (K : PySem.W.Frag) (cda : Addr) (file : Str) : Bool := match K.lookup cda with
  | some ⟨_, _, .fields vs, _⟩ => (match (vs[2]? : Option Value) with | some (Value.str n _) => n == file | _ => false)
  | _ => false
theorem fileB_ok {K : PySem.W.Frag} {cda : Addr} {file : Str} (e : fileB K cda file = true) : ∃ ccl cdd vs ccs tf, K.lookup cda = some ⟨ccl, cdd, .fields vs, ccs⟩ ∧ vs[2]? = some (.str file tf) := by
  unfold fileB at e
  split at e
  · rename_i a b vs s h
    split at e
    · rename_i n tf h2
      rw [beq_iff_eq] at e
      subst e
      exact ⟨_, _, _, _, _, h, h2⟩
    · cases e
  · cases e
end PEO
set_option maxHeartbeats 0
namespace PH
open PF PySem PySem.Spec PyProof.Rows L2
def a_CN (K : PySem.W.Frag) : Addr := He.ga K "Number"
def a_CF (K : PySem.W.Frag) : Addr := He.ga K "Form"
def a_pNtop (K : PySem.W.Frag) : Addr := He.ma K (a_CN K) "own_top"
def a_pNpart (K : PySem.W.Frag) : Addr := He.ma K (a_CN K) "own_part"
def a_pNroot (K : PySem.W.Frag) : Addr := He.ma K (a_CN K) "own_root"
def a_pNbottom (K : PySem.W.Frag) : Addr := He.ma K (a_CN K) "own_bottom"
def a_pFtop (K : PySem.W.Frag) : Addr := He.ma K (a_CF K) "own_top"
def a_pFpart (K : PySem.W.Frag) : Addr := He.ma K (a_CF K) "own_part"
def a_pFroot (K : PySem.W.Frag) : Addr := He.ma K (a_CF K) "own_root"
def a_pFbottom (K : PySem.W.Frag) : Addr := He.ma K (a_CF K) "own_bottom"
def a_ft0 (K : PySem.W.Frag) : Addr := He.ga K "is_whole"
def a_cdt0 (K : PySem.W.Frag) : Value := PHD.fcode K (a_ft0 K)
def a_ft1 (K : PySem.W.Frag) : Addr := He.ga K "greatest_divisor"
def a_cdt1 (K : PySem.W.Frag) : Value := PHD.fcode K (a_ft1 K)
def a_ft2 (K : PySem.W.Frag) : Addr := He.ga K "whole_root"
def a_cdt2 (K : PySem.W.Frag) : Value := PHD.fcode K (a_ft2 K)
def a_ft3 (K : PySem.W.Frag) : Addr := He.ga K "is_root"
def a_cdt3 (K : PySem.W.Frag) : Value := PHD.fcode K (a_ft3 K)
def a_ft4 (K : PySem.W.Frag) : Addr := He.ga K "told_number"
def a_cdt4 (K : PySem.W.Frag) : Value := PHD.fcode K (a_ft4 K)
def a_ffi (K : PySem.W.Frag) : Addr := He.ma K (a_CF K) "__init__"
def a_cdfi (K : PySem.W.Frag) : Value := PHD.fcode K (a_ffi K)
def a_ft5 (K : PySem.W.Frag) : Addr := He.ga K "form_in"
def a_cdt5 (K : PySem.W.Frag) : Value := PHD.fcode K (a_ft5 K)
def a_fni (K : PySem.W.Frag) : Addr := He.ma K (a_CN K) "__init__"
def a_aT (K : PySem.W.Frag) : Addr := PHD.dflA K (a_fni K)
def a_aD (K : PySem.W.Frag) : Addr := PHD.kwdA K (a_fni K)
def a_cdni (K : PySem.W.Frag) : Value := PHD.fcode K (a_fni K)
def a_ft6 (K : PySem.W.Frag) : Addr := He.ga K "is_like_number"
def a_cdt6 (K : PySem.W.Frag) : Value := PHD.fcode K (a_ft6 K)
def a_ft7 (K : PySem.W.Frag) : Addr := He.ga K "number_of"
def a_cdt7 (K : PySem.W.Frag) : Value := PHD.fcode K (a_ft7 K)
def a_ft8 (K : PySem.W.Frag) : Addr := He.ga K "common_root"
def a_cdt8 (K : PySem.W.Frag) : Value := PHD.fcode K (a_ft8 K)
def a_fadd (K : PySem.W.Frag) : Addr := He.ma K (a_CN K) "__add__"
def a_cdadd (K : PySem.W.Frag) : Value := PHD.fcode K (a_fadd K)
def a_fsub (K : PySem.W.Frag) : Addr := He.ma K (a_CN K) "__sub__"
def a_cdsub (K : PySem.W.Frag) : Value := PHD.fcode K (a_fsub K)
def a_fmul (K : PySem.W.Frag) : Addr := He.ma K (a_CN K) "__mul__"
def a_cdmul (K : PySem.W.Frag) : Value := PHD.fcode K (a_fmul K)
def a_dp_top (K : PySem.W.Frag) : Addr := He.ma K (a_CN K) "top"
def a_fp_top (K : PySem.W.Frag) : Addr := PHD.recHd K (a_dp_top K) "property"
def a_cdp_top (K : PySem.W.Frag) : Value := PHD.fcode K (a_fp_top K)
def a_dp_part (K : PySem.W.Frag) : Addr := He.ma K (a_CN K) "part"
def a_fp_part (K : PySem.W.Frag) : Addr := PHD.recHd K (a_dp_part K) "property"
def a_cdp_part (K : PySem.W.Frag) : Value := PHD.fcode K (a_fp_part K)
def a_dp_root (K : PySem.W.Frag) : Addr := He.ma K (a_CN K) "root"
def a_fp_root (K : PySem.W.Frag) : Addr := PHD.recHd K (a_dp_root K) "property"
def a_cdp_root (K : PySem.W.Frag) : Value := PHD.fcode K (a_fp_root K)
def a_dp_bottom (K : PySem.W.Frag) : Addr := He.ma K (a_CN K) "bottom"
def a_fp_bottom (K : PySem.W.Frag) : Addr := PHD.recHd K (a_dp_bottom K) "property"
def a_cdp_bottom (K : PySem.W.Frag) : Value := PHD.fcode K (a_fp_bottom K)
def a_feq (K : PySem.W.Frag) : Addr := He.ma K (a_CN K) "__eq__"
def a_cdeq (K : PySem.W.Frag) : Value := PHD.fcode K (a_feq K)
def a_fstr (K : PySem.W.Frag) : Addr := He.ma K (a_CN K) "__str__"
def a_cdstr (K : PySem.W.Frag) : Value := PHD.fcode K (a_fstr K)
def a_ft9 (K : PySem.W.Frag) : Addr := He.ga K "_law_dice"
def a_cdt9 (K : PySem.W.Frag) : Value := PHD.fcode K (a_ft9 K)
def a_ft10 (K : PySem.W.Frag) : Addr := He.ga K "_law_roll"
def a_cdt10 (K : PySem.W.Frag) : Value := PHD.fcode K (a_ft10 K)
def a_ft11 (K : PySem.W.Frag) : Addr := He.ga K "_law_pick"
def a_cdt11 (K : PySem.W.Frag) : Value := PHD.fcode K (a_ft11 K)
def a_ft12 (K : PySem.W.Frag) : Addr := He.ga K "integer_in"
def a_cdt12 (K : PySem.W.Frag) : Value := PHD.fcode K (a_ft12 K)
def a_ft13 (K : PySem.W.Frag) : Addr := He.ga K "parts_in"
def a_cdt13 (K : PySem.W.Frag) : Value := PHD.fcode K (a_ft13 K)
def a_ft14 (K : PySem.W.Frag) : Addr := He.ga K "number_in"
def a_cdt14 (K : PySem.W.Frag) : Value := PHD.fcode K (a_ft14 K)
def a_dcCN_read (K : PySem.W.Frag) : Addr := PHD.cmAd K (a_CN K) "read"
def a_fcCN_read (K : PySem.W.Frag) : Addr := PHD.recHd K (a_dcCN_read K) "classmethod"
def a_cdcCN_read (K : PySem.W.Frag) : Value := PHD.fcode K (a_fcCN_read K)
def a_A_PieceError (K : PySem.W.Frag) : Addr := He.ga K "PieceError"
def a_A_ParseError (K : PySem.W.Frag) : Addr := He.ga K "ParseError"
def a_fI_ParseError (K : PySem.W.Frag) : Addr := He.ma K (a_A_ParseError K) "__init__"
def a_ft15 (K : PySem.W.Frag) : Addr := He.ga K "_law_common"
def a_cdt15 (K : PySem.W.Frag) : Value := PHD.fcode K (a_ft15 K)
def a_ft16 (K : PySem.W.Frag) : Addr := He.ga K "_law_least"
def a_cdt16 (K : PySem.W.Frag) : Value := PHD.fcode K (a_ft16 K)
def a_ft17 (K : PySem.W.Frag) : Addr := He.ga K "_law_parts_drawn"
def a_cdt17 (K : PySem.W.Frag) : Value := PHD.fcode K (a_ft17 K)
def a_ft18 (K : PySem.W.Frag) : Addr := He.ga K "_law_made"
def a_cdt18 (K : PySem.W.Frag) : Value := PHD.fcode K (a_ft18 K)
def a_ft19 (K : PySem.W.Frag) : Addr := He.ga K "_law_form"
def a_cdt19 (K : PySem.W.Frag) : Value := PHD.fcode K (a_ft19 K)
def a_ft20 (K : PySem.W.Frag) : Addr := He.ga K "_law_text"
def a_cdt20 (K : PySem.W.Frag) : Value := PHD.fcode K (a_ft20 K)
def a_ft21 (K : PySem.W.Frag) : Addr := He.ga K "_law_integer"
def a_cdt21 (K : PySem.W.Frag) : Value := PHD.fcode K (a_ft21 K)
def a_ft22 (K : PySem.W.Frag) : Addr := He.ga K "_law_free_of_squares"
def a_cdt22 (K : PySem.W.Frag) : Value := PHD.fcode K (a_ft22 K)
def a_ft23 (K : PySem.W.Frag) : Addr := He.ga K "_law_sides"
def a_cdt23 (K : PySem.W.Frag) : Value := PHD.fcode K (a_ft23 K)
def a_ft24 (K : PySem.W.Frag) : Addr := He.ga K "_law_told"
def a_cdt24 (K : PySem.W.Frag) : Value := PHD.fcode K (a_ft24 K)
def a_ft25 (K : PySem.W.Frag) : Addr := He.ga K "_law_bent"
def a_cdt25 (K : PySem.W.Frag) : Value := PHD.fcode K (a_ft25 K)
def a_ft26 (K : PySem.W.Frag) : Addr := He.ga K "_law_read"
def a_cdt26 (K : PySem.W.Frag) : Value := PHD.fcode K (a_ft26 K)
def a_ft27 (K : PySem.W.Frag) : Addr := He.ga K "_law_right"
def a_cdt27 (K : PySem.W.Frag) : Value := PHD.fcode K (a_ft27 K)
def a_ft28 (K : PySem.W.Frag) : Addr := He.ga K "law"
def a_cdt28 (K : PySem.W.Frag) : Value := PHD.fcode K (a_ft28 K)
def bx0 (K : PySem.W.Frag) : Bool := (decide (PySem.W.nsIn K mainGlobals "abs" = some none)) && ((decide (PySem.W.nsIn K mainGlobals "all" = some none)) && ((decide (PySem.W.nsIn K mainGlobals "bool" = some none)) && ((decide (PySem.W.nsIn K mainGlobals "int" = some none)) && ((decide (PySem.W.nsIn K mainGlobals "isinstance" = some none)) && ((decide (PySem.W.nsIn K mainGlobals "len" = some none)) && ((decide (PySem.W.nsIn K mainGlobals "max" = some none)) && ((decide (PySem.W.nsIn K mainGlobals "min" = some none)) && ((decide (PySem.W.nsIn K mainGlobals "range" = some none)) && ((decide (PySem.W.nsIn K mainGlobals "repr" = some none)) && ((decide (PySem.W.nsIn K mainGlobals "str" = some none)) && ((decide (PySem.W.specialIn K (.builtin "object.__class__") "__get__" = some (some (.builtin "getset_descriptor.__get__")))) && ((decide (PySem.W.takesIn K (.builtin "object.__class__") = some true)) && ((decide (PySem.W.nsIn K mainGlobals "Number" = some (some (.ref (a_CN K))))) && ((decide (PySem.W.nsIn K mainGlobals "Form" = some (some (.ref (a_CF K))))) && ((decide (PySem.W.plainGet K (a_CN K) Str.empty = true)) && ((decide (PySem.W.isClsIn K (a_CN K) = true)) && ((decide (PySem.W.plainOver K (a_CN K) = true)) && ((decide (PySem.W.findIn K (.ref (a_CN K)) "__setattr__" = some (some (.builtin "object.__setattr__")))) && ((decide (PySem.W.findIn K (.ref (a_CN K)) "__class__" = some (some (.builtin "object.__class__")))) && true)))))))))))))))))))
def bx1 (K : PySem.W.Frag) : Bool := (decide (PySem.W.mroIn K (a_CN K) (.type "object") = some true)) && ((decide (PySem.W.makesIn K (a_CN K) = true)) && ((decide (PySem.W.keepIn K (.ref (a_CN K)) = true)) && ((decide (PySem.W.plainGet K (a_CF K) Str.empty = true)) && ((decide (PySem.W.isClsIn K (a_CF K) = true)) && ((decide (PySem.W.plainOver K (a_CF K) = true)) && ((decide (PySem.W.findIn K (.ref (a_CF K)) "__setattr__" = some (some (.builtin "object.__setattr__")))) && ((decide (PySem.W.findIn K (.ref (a_CF K)) "__class__" = some (some (.builtin "object.__class__")))) && ((decide (PySem.W.mroIn K (a_CF K) (.type "object") = some true)) && ((decide (PySem.W.makesIn K (a_CF K) = true)) && ((decide (PySem.W.keepIn K (.ref (a_CF K)) = true)) && ((decide (PySem.W.findIn K (.ref (a_CN K)) "own_top" = some (some (.ref (a_pNtop K))))) && ((decide (PySem.W.specialIn K (.ref (a_pNtop K)) "__get__" = some (some (.builtin "member_descriptor.__get__")))) && ((decide (PySem.W.takesIn K (.ref (a_pNtop K)) = some true)) && ((decide (PySem.W.typeIn K (.ref (a_pNtop K)) = some (.type "member_descriptor"))) && ((decide (PySem.W.slotIn K (a_pNtop K) (a_CN K) = some 3)) && ((decide (PySem.W.findIn K (.ref (a_CN K)) "own_part" = some (some (.ref (a_pNpart K))))) && ((decide (PySem.W.specialIn K (.ref (a_pNpart K)) "__get__" = some (some (.builtin "member_descriptor.__get__")))) && ((decide (PySem.W.takesIn K (.ref (a_pNpart K)) = some true)) && ((decide (PySem.W.typeIn K (.ref (a_pNpart K)) = some (.type "member_descriptor"))) && true)))))))))))))))))))
def bx2 (K : PySem.W.Frag) : Bool := (decide (PySem.W.slotIn K (a_pNpart K) (a_CN K) = some 1)) && ((decide (PySem.W.findIn K (.ref (a_CN K)) "own_root" = some (some (.ref (a_pNroot K))))) && ((decide (PySem.W.specialIn K (.ref (a_pNroot K)) "__get__" = some (some (.builtin "member_descriptor.__get__")))) && ((decide (PySem.W.takesIn K (.ref (a_pNroot K)) = some true)) && ((decide (PySem.W.typeIn K (.ref (a_pNroot K)) = some (.type "member_descriptor"))) && ((decide (PySem.W.slotIn K (a_pNroot K) (a_CN K) = some 2)) && ((decide (PySem.W.findIn K (.ref (a_CN K)) "own_bottom" = some (some (.ref (a_pNbottom K))))) && ((decide (PySem.W.specialIn K (.ref (a_pNbottom K)) "__get__" = some (some (.builtin "member_descriptor.__get__")))) && ((decide (PySem.W.takesIn K (.ref (a_pNbottom K)) = some true)) && ((decide (PySem.W.typeIn K (.ref (a_pNbottom K)) = some (.type "member_descriptor"))) && ((decide (PySem.W.slotIn K (a_pNbottom K) (a_CN K) = some 0)) && ((decide (PySem.W.findIn K (.ref (a_CF K)) "own_top" = some (some (.ref (a_pFtop K))))) && ((decide (PySem.W.specialIn K (.ref (a_pFtop K)) "__get__" = some (some (.builtin "member_descriptor.__get__")))) && ((decide (PySem.W.takesIn K (.ref (a_pFtop K)) = some true)) && ((decide (PySem.W.typeIn K (.ref (a_pFtop K)) = some (.type "member_descriptor"))) && ((decide (PySem.W.slotIn K (a_pFtop K) (a_CF K) = some 3)) && ((decide (PySem.W.findIn K (.ref (a_CF K)) "own_part" = some (some (.ref (a_pFpart K))))) && ((decide (PySem.W.specialIn K (.ref (a_pFpart K)) "__get__" = some (some (.builtin "member_descriptor.__get__")))) && ((decide (PySem.W.takesIn K (.ref (a_pFpart K)) = some true)) && ((decide (PySem.W.typeIn K (.ref (a_pFpart K)) = some (.type "member_descriptor"))) && true)))))))))))))))))))
def bx3 (K : PySem.W.Frag) : Bool := (decide (PySem.W.slotIn K (a_pFpart K) (a_CF K) = some 1)) && ((decide (PySem.W.findIn K (.ref (a_CF K)) "own_root" = some (some (.ref (a_pFroot K))))) && ((decide (PySem.W.specialIn K (.ref (a_pFroot K)) "__get__" = some (some (.builtin "member_descriptor.__get__")))) && ((decide (PySem.W.takesIn K (.ref (a_pFroot K)) = some true)) && ((decide (PySem.W.typeIn K (.ref (a_pFroot K)) = some (.type "member_descriptor"))) && ((decide (PySem.W.slotIn K (a_pFroot K) (a_CF K) = some 2)) && ((decide (PySem.W.findIn K (.ref (a_CF K)) "own_bottom" = some (some (.ref (a_pFbottom K))))) && ((decide (PySem.W.specialIn K (.ref (a_pFbottom K)) "__get__" = some (some (.builtin "member_descriptor.__get__")))) && ((decide (PySem.W.takesIn K (.ref (a_pFbottom K)) = some true)) && ((decide (PySem.W.typeIn K (.ref (a_pFbottom K)) = some (.type "member_descriptor"))) && ((decide (PySem.W.slotIn K (a_pFbottom K) (a_CF K) = some 0)) && ((decide (PySem.W.typeIn K (.ref (a_CN K)) = some (.type "type"))) && ((decide (PySem.W.typeIn K (.ref (a_CF K)) = some (.type "type"))) && ((decide (PySem.W.subIn K (.type "int") (.ref (a_CF K)) = some false)) && ((decide (PySem.W.subIn K (.ref (a_CN K)) (.type "int") = some false)) && ((decide (PySem.W.subIn K (.type "int") (.ref (a_CN K)) = some false)) && ((decide (PySem.W.nsIn K mainGlobals "is_whole" = some (some (.ref (a_ft0 K))))) && ((decide (PySem.W.codeIn K (a_cdt0 K) "is_whole" = true)) && ((decide (PySem.W.keepIn K (.ref (a_ft0 K)) = true)) && ((decide (PySem.W.nsIn K mainGlobals "greatest_divisor" = some (some (.ref (a_ft1 K))))) && true)))))))))))))))))))
def bx4 (K : PySem.W.Frag) : Bool := (decide (PySem.W.codeIn K (a_cdt1 K) "greatest_divisor" = true)) && ((decide (PySem.W.keepIn K (.ref (a_ft1 K)) = true)) && ((decide (PySem.W.nsIn K mainGlobals "whole_root" = some (some (.ref (a_ft2 K))))) && ((decide (PySem.W.codeIn K (a_cdt2 K) "whole_root" = true)) && ((decide (PySem.W.keepIn K (.ref (a_ft2 K)) = true)) && ((decide (PySem.W.nsIn K mainGlobals "is_root" = some (some (.ref (a_ft3 K))))) && ((decide (PySem.W.codeIn K (a_cdt3 K) "is_root" = true)) && ((decide (PySem.W.keepIn K (.ref (a_ft3 K)) = true)) && ((decide (PySem.W.nsIn K mainGlobals "told_number" = some (some (.ref (a_ft4 K))))) && ((decide (PySem.W.codeIn K (a_cdt4 K) "told_number" = true)) && ((decide (PySem.W.keepIn K (.ref (a_ft4 K)) = true)) && ((decide (PySem.W.nsIn K cStatics "sys.int_max_str_digits" = some none)) && ((decide (PySem.W.findIn K (.ref (a_CF K)) "__init__" = some (some (.ref (a_ffi K))))) && ((decide (PySem.W.codeIn K (a_cdfi K) "Form.__init__" = true)) && ((decide (PySem.W.keepIn K (.ref (a_ffi K)) = true)) && ((decide (PySem.W.isFn K (.ref (a_ffi K)) = true)) && ((decide (PySem.W.nsIn K mainGlobals "form_in" = some (some (.ref (a_ft5 K))))) && ((decide (PySem.W.codeIn K (a_cdt5 K) "form_in" = true)) && ((decide (PySem.W.keepIn K (.ref (a_ft5 K)) = true)) && ((decide (PySem.W.findIn K (.ref (a_CN K)) "__init__" = some (some (.ref (a_fni K))))) && true)))))))))))))))))))
def bx5 (K : PySem.W.Frag) : Bool := (PHD.dkB K (a_fni K)) && ((decide (PySem.W.codeIn K (a_cdni K) "Number.__init__" = true)) && ((decide (PySem.W.keepIn K (.ref (a_fni K)) = true)) && ((decide (PySem.W.isFn K (.ref (a_fni K)) = true)) && ((PHD.seqB K (a_aT K) 0) && ((PHD.intN K (a_aD K) "root" 0) && ((PHD.intN K (a_aD K) "bottom" 1) && ((decide (PySem.W.nsIn K mainGlobals "is_like_number" = some (some (.ref (a_ft6 K))))) && ((decide (PySem.W.codeIn K (a_cdt6 K) "is_like_number" = true)) && ((decide (PySem.W.keepIn K (.ref (a_ft6 K)) = true)) && ((decide (PySem.W.nsIn K mainGlobals "number_of" = some (some (.ref (a_ft7 K))))) && ((decide (PySem.W.codeIn K (a_cdt7 K) "number_of" = true)) && ((decide (PySem.W.keepIn K (.ref (a_ft7 K)) = true)) && ((decide (PySem.W.nsIn K mainGlobals "common_root" = some (some (.ref (a_ft8 K))))) && ((decide (PySem.W.codeIn K (a_cdt8 K) "common_root" = true)) && ((decide (PySem.W.keepIn K (.ref (a_ft8 K)) = true)) && ((decide (PySem.W.findIn K (.ref (a_CN K)) "__add__" = some (some (.ref (a_fadd K))))) && ((decide (PySem.W.codeIn K (a_cdadd K) "Number.__add__" = true)) && ((decide (PySem.W.keepIn K (.ref (a_fadd K)) = true)) && ((decide (PySem.W.isFn K (.ref (a_fadd K)) = true)) && true)))))))))))))))))))
def bx6 (K : PySem.W.Frag) : Bool := (decide (PySem.W.findIn K (.ref (a_CN K)) "__radd__" = some none)) && ((Option.isSome (PySem.W.findIn K (.type "int") "__add__")) && ((Option.isSome (PySem.W.findIn K (.type "int") "__radd__")) && ((decide (PySem.W.selfFirst K (a_CN K) = true)) && ((decide (PySem.W.findIn K (.ref (a_CN K)) "__sub__" = some (some (.ref (a_fsub K))))) && ((decide (PySem.W.codeIn K (a_cdsub K) "Number.__sub__" = true)) && ((decide (PySem.W.keepIn K (.ref (a_fsub K)) = true)) && ((decide (PySem.W.isFn K (.ref (a_fsub K)) = true)) && ((decide (PySem.W.findIn K (.ref (a_CN K)) "__rsub__" = some none)) && ((Option.isSome (PySem.W.findIn K (.type "int") "__sub__")) && ((Option.isSome (PySem.W.findIn K (.type "int") "__rsub__")) && ((decide (PySem.W.findIn K (.ref (a_CN K)) "__mul__" = some (some (.ref (a_fmul K))))) && ((decide (PySem.W.codeIn K (a_cdmul K) "Number.__mul__" = true)) && ((decide (PySem.W.keepIn K (.ref (a_fmul K)) = true)) && ((decide (PySem.W.isFn K (.ref (a_fmul K)) = true)) && ((decide (PySem.W.findIn K (.ref (a_CN K)) "__rmul__" = some none)) && ((Option.isSome (PySem.W.findIn K (.type "int") "__mul__")) && ((Option.isSome (PySem.W.findIn K (.type "int") "__rmul__")) && ((decide (PySem.W.findIn K (.ref (a_CN K)) "top" = some (some (.ref (a_dp_top K))))) && ((decide (PySem.W.specialIn K (.ref (a_dp_top K)) "__get__" = some (some (.builtin "property.__get__")))) && true)))))))))))))))))))
def bx7 (K : PySem.W.Frag) : Bool := (decide (PySem.W.takesIn K (.ref (a_dp_top K)) = some true)) && ((PHD.recB K (a_dp_top K) "property") && ((decide (PySem.W.codeIn K (a_cdp_top K) "Number.top" = true)) && ((decide (PySem.W.keepIn K (.ref (a_fp_top K)) = true)) && ((decide (PySem.W.findIn K (.ref (a_CN K)) "part" = some (some (.ref (a_dp_part K))))) && ((decide (PySem.W.specialIn K (.ref (a_dp_part K)) "__get__" = some (some (.builtin "property.__get__")))) && ((decide (PySem.W.takesIn K (.ref (a_dp_part K)) = some true)) && ((PHD.recB K (a_dp_part K) "property") && ((decide (PySem.W.codeIn K (a_cdp_part K) "Number.part" = true)) && ((decide (PySem.W.keepIn K (.ref (a_fp_part K)) = true)) && ((decide (PySem.W.findIn K (.ref (a_CN K)) "root" = some (some (.ref (a_dp_root K))))) && ((decide (PySem.W.specialIn K (.ref (a_dp_root K)) "__get__" = some (some (.builtin "property.__get__")))) && ((decide (PySem.W.takesIn K (.ref (a_dp_root K)) = some true)) && ((PHD.recB K (a_dp_root K) "property") && ((decide (PySem.W.codeIn K (a_cdp_root K) "Number.root" = true)) && ((decide (PySem.W.keepIn K (.ref (a_fp_root K)) = true)) && ((decide (PySem.W.findIn K (.ref (a_CN K)) "bottom" = some (some (.ref (a_dp_bottom K))))) && ((decide (PySem.W.specialIn K (.ref (a_dp_bottom K)) "__get__" = some (some (.builtin "property.__get__")))) && ((decide (PySem.W.takesIn K (.ref (a_dp_bottom K)) = some true)) && ((PHD.recB K (a_dp_bottom K) "property") && true)))))))))))))))))))
def bx8 (K : PySem.W.Frag) : Bool := (decide (PySem.W.codeIn K (a_cdp_bottom K) "Number.bottom" = true)) && ((decide (PySem.W.keepIn K (.ref (a_fp_bottom K)) = true)) && ((decide (PySem.W.findIn K (.ref (a_CN K)) "__eq__" = some (some (.ref (a_feq K))))) && ((decide (PySem.W.codeIn K (a_cdeq K) "Number.__eq__" = true)) && ((decide (PySem.W.keepIn K (.ref (a_feq K)) = true)) && ((decide (PySem.W.isFn K (.ref (a_feq K)) = true)) && ((decide (PySem.W.findIn K (.ref (a_CN K)) "__ne__" = some (some (.builtin "object.__ne__")))) && ((decide (PySem.W.findIn K (.ref (a_CN K)) "__str__" = some (some (.ref (a_fstr K))))) && ((decide (PySem.W.codeIn K (a_cdstr K) "Number.__str__" = true)) && ((decide (PySem.W.keepIn K (.ref (a_fstr K)) = true)) && ((decide (PySem.W.isFn K (.ref (a_fstr K)) = true)) && ((decide (PySem.W.nsIn K mainGlobals "_law_dice" = some (some (.ref (a_ft9 K))))) && ((decide (PySem.W.codeIn K (a_cdt9 K) "_law_dice" = true)) && ((decide (PySem.W.keepIn K (.ref (a_ft9 K)) = true)) && ((decide (PySem.W.nsIn K mainGlobals "_law_roll" = some (some (.ref (a_ft10 K))))) && ((decide (PySem.W.codeIn K (a_cdt10 K) "_law_roll" = true)) && ((decide (PySem.W.keepIn K (.ref (a_ft10 K)) = true)) && ((decide (PySem.W.nsIn K mainGlobals "_law_pick" = some (some (.ref (a_ft11 K))))) && ((decide (PySem.W.codeIn K (a_cdt11 K) "_law_pick" = true)) && ((decide (PySem.W.keepIn K (.ref (a_ft11 K)) = true)) && true)))))))))))))))))))
def bx9 (K : PySem.W.Frag) : Bool := (decide (PySem.W.nsIn K mainGlobals "integer_in" = some (some (.ref (a_ft12 K))))) && ((decide (PySem.W.codeIn K (a_cdt12 K) "integer_in" = true)) && ((decide (PySem.W.keepIn K (.ref (a_ft12 K)) = true)) && ((decide (PySem.W.nsIn K mainGlobals "parts_in" = some (some (.ref (a_ft13 K))))) && ((decide (PySem.W.codeIn K (a_cdt13 K) "parts_in" = true)) && ((decide (PySem.W.keepIn K (.ref (a_ft13 K)) = true)) && ((decide (PySem.W.nsIn K mainGlobals "number_in" = some (some (.ref (a_ft14 K))))) && ((decide (PySem.W.codeIn K (a_cdt14 K) "number_in" = true)) && ((decide (PySem.W.keepIn K (.ref (a_ft14 K)) = true)) && ((decide (PySem.W.readsIn K (a_CN K) (.type "type") = true)) && ((decide (PySem.W.specialIn K (.ref (a_CN K)) "__getattribute__" = some (some (.builtin "type.__getattribute__")))) && ((PHD.cmB K (a_CN K) "read") && ((PHD.recB K (a_dcCN_read K) "classmethod") && ((decide (PySem.W.codeIn K (a_cdcCN_read K) "Number.read" = true)) && ((decide (PySem.W.keepIn K (.ref (a_fcCN_read K)) = true)) && ((decide (PySem.W.fnIn K (a_fcCN_read K) = true)) && ((decide (PySem.W.kitOne K (.ref (a_CN K)) (.type "str") = some false)) && ((decide (PySem.W.nsIn K mainGlobals "PieceError" = some (some (.ref (a_A_PieceError K))))) && ((decide (PySem.W.excIn K (a_A_PieceError K) [.type "ValueError", .type "Exception", .type "BaseException", .type "object"] "ValueError.__new__" = true)) && ((decide (PySem.W.keepIn K (.ref (a_A_PieceError K)) = true)) && true)))))))))))))))))))
def bx10 (K : PySem.W.Frag) : Bool := (decide (PySem.W.subIn K (.ref (a_A_PieceError K)) (.type "BaseException") = some true)) && ((decide (PySem.W.typeIn K (.ref (a_A_PieceError K)) = some (.type "type"))) && ((decide (PySem.W.nsIn K cStatics "thirdparty.any" = some none)) && ((decide (PySem.W.nsIn K mainGlobals "super" = some none)) && ((decide (PySem.W.nsIn K mainGlobals "ParseError" = some (some (.ref (a_A_ParseError K))))) && ((decide (PySem.W.findIn K (.ref (a_A_ParseError K)) "__init__" = some (some (.ref (a_fI_ParseError K))))) && ((decide (PEO.errB K (a_A_ParseError K) [.ref (a_A_PieceError K), .type "ValueError", .type "Exception", .type "BaseException", .type "object"] "ValueError.__new__" = true)) && ((decide (PySem.W.alongIn K "__init__" [.ref (a_A_PieceError K), .type "ValueError", .type "Exception", .type "BaseException", .type "object"] = some (some (.builtin "ValueError.__init__")))) && ((decide (PEO.codeB K (a_fI_ParseError K) = true)) && ((decide (PySem.W.codeIn K (.ref (PEO.codeA K (a_fI_ParseError K))) "ParseError.__init__" = true)) && ((decide (PEO.cellB K (PEO.cellA K (a_fI_ParseError K)) (a_A_ParseError K) = true)) && ((decide (PEO.fileB K (PEO.codeA K (a_fI_ParseError K)) "/claim/cut.py" = true)) && ((decide (PySem.W.findIn K (.ref (a_A_ParseError K)) "__setattr__" = some (some (.builtin "object.__setattr__")))) && ((decide (PySem.W.findIn K (.ref (a_A_ParseError K)) "index" = some none)) && ((decide (PySem.W.excOver K (a_A_ParseError K) [.type "ValueError", .type "Exception", .type "BaseException", .type "object"] = true)) && ((decide (PySem.W.subIn K (.ref (a_A_ParseError K)) (.type "BaseException") = some true)) && ((decide (PySem.W.typeIn K (.ref (a_A_ParseError K)) = some (.type "type"))) && ((decide (PySem.W.keepIn K (.ref (a_A_ParseError K)) = true)) && ((decide (PySem.W.typeIn K (.ref (a_fI_ParseError K)) = some (.type "function"))) && ((decide (xfB K (a_A_ParseError K) = true)) && true)))))))))))))))))))
def bx11 (K : PySem.W.Frag) : Bool := (decide (PySem.W.nsIn K mainGlobals "_law_common" = some (some (.ref (a_ft15 K))))) && ((decide (PySem.W.codeIn K (a_cdt15 K) "_law_common" = true)) && ((decide (PySem.W.keepIn K (.ref (a_ft15 K)) = true)) && ((decide (PySem.W.nsIn K mainGlobals "_law_least" = some (some (.ref (a_ft16 K))))) && ((decide (PySem.W.codeIn K (a_cdt16 K) "_law_least" = true)) && ((decide (PySem.W.keepIn K (.ref (a_ft16 K)) = true)) && ((decide (PySem.W.nsIn K mainGlobals "_law_parts_drawn" = some (some (.ref (a_ft17 K))))) && ((decide (PySem.W.codeIn K (a_cdt17 K) "_law_parts_drawn" = true)) && ((decide (PySem.W.keepIn K (.ref (a_ft17 K)) = true)) && ((decide (PySem.W.nsIn K mainGlobals "_law_made" = some (some (.ref (a_ft18 K))))) && ((decide (PySem.W.codeIn K (a_cdt18 K) "_law_made" = true)) && ((decide (PySem.W.keepIn K (.ref (a_ft18 K)) = true)) && ((decide (PySem.W.nsIn K mainGlobals "_law_form" = some (some (.ref (a_ft19 K))))) && ((decide (PySem.W.codeIn K (a_cdt19 K) "_law_form" = true)) && ((decide (PySem.W.keepIn K (.ref (a_ft19 K)) = true)) && ((decide (PySem.W.nsIn K mainGlobals "_law_text" = some (some (.ref (a_ft20 K))))) && ((decide (PySem.W.codeIn K (a_cdt20 K) "_law_text" = true)) && ((decide (PySem.W.keepIn K (.ref (a_ft20 K)) = true)) && ((decide (PySem.W.nsIn K mainGlobals "_law_integer" = some (some (.ref (a_ft21 K))))) && ((decide (PySem.W.codeIn K (a_cdt21 K) "_law_integer" = true)) && true)))))))))))))))))))
def bx12 (K : PySem.W.Frag) : Bool := (decide (PySem.W.keepIn K (.ref (a_ft21 K)) = true)) && ((decide (PySem.W.nsIn K mainGlobals "_law_free_of_squares" = some (some (.ref (a_ft22 K))))) && ((decide (PySem.W.codeIn K (a_cdt22 K) "_law_free_of_squares" = true)) && ((decide (PySem.W.keepIn K (.ref (a_ft22 K)) = true)) && ((decide (PySem.W.nsIn K mainGlobals "_law_sides" = some (some (.ref (a_ft23 K))))) && ((decide (PySem.W.codeIn K (a_cdt23 K) "_law_sides" = true)) && ((decide (PySem.W.keepIn K (.ref (a_ft23 K)) = true)) && ((decide (PySem.W.nsIn K mainGlobals "_law_told" = some (some (.ref (a_ft24 K))))) && ((decide (PySem.W.codeIn K (a_cdt24 K) "_law_told" = true)) && ((decide (PySem.W.keepIn K (.ref (a_ft24 K)) = true)) && ((decide (PySem.W.nsIn K mainGlobals "_law_bent" = some (some (.ref (a_ft25 K))))) && ((decide (PySem.W.codeIn K (a_cdt25 K) "_law_bent" = true)) && ((decide (PySem.W.keepIn K (.ref (a_ft25 K)) = true)) && ((decide (PySem.W.nsIn K mainGlobals "_law_read" = some (some (.ref (a_ft26 K))))) && ((decide (PySem.W.codeIn K (a_cdt26 K) "_law_read" = true)) && ((decide (PySem.W.keepIn K (.ref (a_ft26 K)) = true)) && ((decide (PySem.W.exmOne K (.ref (a_A_ParseError K)) (.ref (a_A_ParseError K)) = some true)) && ((decide (PySem.W.nsIn K mainGlobals "_law_right" = some (some (.ref (a_ft27 K))))) && ((decide (PySem.W.codeIn K (a_cdt27 K) "_law_right" = true)) && ((decide (PySem.W.keepIn K (.ref (a_ft27 K)) = true)) && true)))))))))))))))))))
def bx13 (K : PySem.W.Frag) : Bool := (decide (PySem.W.nsIn K mainGlobals "law" = some (some (.ref (a_ft28 K))))) && ((decide (PySem.W.codeIn K (a_cdt28 K) "law" = true)) && ((decide (PySem.W.keepIn K (.ref (a_ft28 K)) = true)) && ((PHD.strB K "FIGURES" "0123456789") && ((PHD.intB K "LEAST_ROOT" 2) && ((PHD.intB K "MAX_ROOT" 999) && ((PHD.intB K "MOST_FIGURES" 1000) && true))))))
def bp0 (K : PySem.W.Frag) : Bool := bx0 K && (bx4 K && (bx8 K && (bx12 K && true)))
def bp1 (K : PySem.W.Frag) : Bool := bx1 K && (bx5 K && (bx9 K && (bx13 K && true)))
def bp2 (K : PySem.W.Frag) : Bool := bx2 K && (bx6 K && (bx10 K && true))
def bp3 (K : PySem.W.Frag) : Bool := bx3 K && (bx7 K && (bx11 K && true))
def bx (K : PySem.W.Frag) : Bool := bp0 K && (bp1 K && (bp2 K && (bp3 K)))
def fx0 (K : PySem.W.Frag) : List PHD.FwT := [PHD.fw K (a_ft0 K), PHD.fw K (a_ft1 K), PHD.fw K (a_ft2 K), PHD.fw K (a_ft3 K), PHD.fw K (a_ft4 K), PHD.fw K (a_ffi K), PHD.fw K (a_ft5 K), PHD.fwN K (a_fni K), PHD.fw K (a_ft6 K), PHD.fw K (a_ft7 K), PHD.fw K (a_ft8 K), PHD.fw K (a_fadd K), PHD.fw K (a_fsub K), PHD.fw K (a_fmul K), PHD.fw K (a_fp_top K), PHD.fw K (a_fp_part K), PHD.fw K (a_fp_root K), PHD.fw K (a_fp_bottom K), PHD.fw K (a_feq K), PHD.fw K (a_fstr K)]
def vx0 : List PHD.FwT := [PHD.fwV "is_whole" "is_whole" (defArgs (topS 6)) (defBody (topS 6)) (defScope (topS 6)), PHD.fwV "greatest_divisor" "greatest_divisor" (defArgs (topS 7)) (defBody (topS 7)) (defScope (topS 7)), PHD.fwV "whole_root" "whole_root" (defArgs (topS 8)) (defBody (topS 8)) (defScope (topS 8)), PHD.fwV "is_root" "is_root" (defArgs (topS 14)) (defBody (topS 14)) (defScope (topS 14)), PHD.fwV "told_number" "told_number" (defArgs (topS 15)) (defBody (topS 15)) (defScope (topS 15)), PHD.fwV "__init__" "Form.__init__" (defArgs (inClass (topS 16) 1)) (defBody (inClass (topS 16) 1)) (defScope (inClass (topS 16) 1)), PHD.fwV "form_in" "form_in" (defArgs (topS 17)) (defBody (topS 17)) (defScope (topS 17)), PHD.fwV "__init__" "Number.__init__" (defArgs (inClass (topS 18) 1)) (defBody (inClass (topS 18) 1)) (defScope (inClass (topS 18) 1)), PHD.fwV "is_like_number" "is_like_number" (defArgs (topS 19)) (defBody (topS 19)) (defScope (topS 19)), PHD.fwV "number_of" "number_of" (defArgs (topS 20)) (defBody (topS 20)) (defScope (topS 20)), PHD.fwV "common_root" "common_root" (defArgs (topS 21)) (defBody (topS 21)) (defScope (topS 21)), PHD.fwV "__add__" "Number.__add__" (defArgs (inClass (topS 18) 13)) (defBody (inClass (topS 18) 13)) (defScope (inClass (topS 18) 13)), PHD.fwV "__sub__" "Number.__sub__" (defArgs (inClass (topS 18) 14)) (defBody (inClass (topS 18) 14)) (defScope (inClass (topS 18) 14)), PHD.fwV "__mul__" "Number.__mul__" (defArgs (inClass (topS 18) 15)) (defBody (inClass (topS 18) 15)) (defScope (inClass (topS 18) 15)), PHD.fwV "top" "Number.top" (defArgs (inClass (topS 18) 3)) (defBody (inClass (topS 18) 3)) (defScope (inClass (topS 18) 3)), PHD.fwV "part" "Number.part" (defArgs (inClass (topS 18) 4)) (defBody (inClass (topS 18) 4)) (defScope (inClass (topS 18) 4)), PHD.fwV "root" "Number.root" (defArgs (inClass (topS 18) 5)) (defBody (inClass (topS 18) 5)) (defScope (inClass (topS 18) 5)), PHD.fwV "bottom" "Number.bottom" (defArgs (inClass (topS 18) 6)) (defBody (inClass (topS 18) 6)) (defScope (inClass (topS 18) 6)), PHD.fwV "__eq__" "Number.__eq__" (defArgs (inClass (topS 18) 17)) (defBody (inClass (topS 18) 17)) (defScope (inClass (topS 18) 17)), PHD.fwV "__str__" "Number.__str__" (defArgs (inClass (topS 18) 18)) (defBody (inClass (topS 18) 18)) (defScope (inClass (topS 18) 18))]
def fx1 (K : PySem.W.Frag) : List PHD.FwT := [PHD.fw K (a_ft9 K), PHD.fw K (a_ft10 K), PHD.fw K (a_ft11 K), PHD.fw K (a_ft12 K), PHD.fw K (a_ft13 K), PHD.fw K (a_ft14 K), PHD.fw K (a_fcCN_read K), PEO.fwC K (a_fI_ParseError K), PHD.fw K (a_ft15 K), PHD.fw K (a_ft16 K), PHD.fw K (a_ft17 K), PHD.fw K (a_ft18 K), PHD.fw K (a_ft19 K), PHD.fw K (a_ft20 K), PHD.fw K (a_ft21 K), PHD.fw K (a_ft22 K), PHD.fw K (a_ft23 K), PHD.fw K (a_ft24 K), PHD.fw K (a_ft25 K), PHD.fw K (a_ft26 K)]
def vx1 : List PHD.FwT := [PHD.fwV "_law_dice" "_law_dice" (defArgs (topS 26)) (defBody (topS 26)) (defScope (topS 26)), PHD.fwV "_law_roll" "_law_roll" (defArgs (topS 27)) (defBody (topS 27)) (defScope (topS 27)), PHD.fwV "_law_pick" "_law_pick" (defArgs (topS 28)) (defBody (topS 28)) (defScope (topS 28)), PHD.fwV "integer_in" "integer_in" (defArgs (topS 22)) (defBody (topS 22)) (defScope (topS 22)), PHD.fwV "parts_in" "parts_in" (defArgs (topS 23)) (defBody (topS 23)) (defScope (topS 23)), PHD.fwV "number_in" "number_in" (defArgs (topS 24)) (defBody (topS 24)) (defScope (topS 24)), PHD.fwV "read" "Number.read" (defArgs (inClass (topS 18) 2)) (defBody (inClass (topS 18) 2)) (defScope (inClass (topS 18) 2)), PEO.fwCV "__init__" "ParseError.__init__" (defArgs (inClass (topS 4) 0)) (defBody (inClass (topS 4) 0)) (defScope (inClass (topS 4) 0)), PHD.fwV "_law_common" "_law_common" (defArgs (topS 29)) (defBody (topS 29)) (defScope (topS 29)), PHD.fwV "_law_least" "_law_least" (defArgs (topS 30)) (defBody (topS 30)) (defScope (topS 30)), PHD.fwV "_law_parts_drawn" "_law_parts_drawn" (defArgs (topS 31)) (defBody (topS 31)) (defScope (topS 31)), PHD.fwV "_law_made" "_law_made" (defArgs (topS 32)) (defBody (topS 32)) (defScope (topS 32)), PHD.fwV "_law_form" "_law_form" (defArgs (topS 33)) (defBody (topS 33)) (defScope (topS 33)), PHD.fwV "_law_text" "_law_text" (defArgs (topS 34)) (defBody (topS 34)) (defScope (topS 34)), PHD.fwV "_law_integer" "_law_integer" (defArgs (topS 35)) (defBody (topS 35)) (defScope (topS 35)), PHD.fwV "_law_free_of_squares" "_law_free_of_squares" (defArgs (topS 36)) (defBody (topS 36)) (defScope (topS 36)), PHD.fwV "_law_sides" "_law_sides" (defArgs (topS 37)) (defBody (topS 37)) (defScope (topS 37)), PHD.fwV "_law_told" "_law_told" (defArgs (topS 38)) (defBody (topS 38)) (defScope (topS 38)), PHD.fwV "_law_bent" "_law_bent" (defArgs (topS 39)) (defBody (topS 39)) (defScope (topS 39)), PHD.fwV "_law_read" "_law_read" (defArgs (topS 40)) (defBody (topS 40)) (defScope (topS 40))]
def fx2 (K : PySem.W.Frag) : List PHD.FwT := [PHD.fw K (a_ft27 K), PHD.fw K (a_ft28 K)]
def vx2 : List PHD.FwT := [PHD.fwV "_law_right" "_law_right" (defArgs (topS 41)) (defBody (topS 41)) (defScope (topS 41)), PHD.fwV "law" "law" (defArgs (topS 42)) (defBody (topS 42)) (defScope (topS 42))]
def fx (K : PySem.W.Frag) : List PHD.FwT := fx0 K ++ (fx1 K ++ (fx2 K ++ []))
def vx : List PHD.FwT := vx0 ++ (vx1 ++ (vx2 ++ []))
abbrev R : PySem.W.OpenRow := PySem.W.OpenLaw.row PySem.Challenge.rw_pieceround_k04_whole_texts_of_numbers
def nm0 : List PySem.Str := ["_wall", "PieceError", "InvalidNumber", "ParseError", "is_whole", "greatest_divisor", "whole_root", "MAX_ROOT", "LEAST_ROOT", "MOST_FIGURES", "FIGURES", "is_root", "told_number", "Form", "form_in", "Number", "is_like_number", "number_of", "common_root", "integer_in", "parts_in", "number_in", "_law_dice", "_law_roll", "_law_pick", "_law_common", "_law_least", "_law_parts_drawn", "_law_made", "_law_form"]
def nm1 : List PySem.Str := ["_law_text", "_law_integer", "_law_free_of_squares", "_law_sides", "_law_told", "_law_bent", "_law_read", "_law_right"]
abbrev nms : List PySem.Str := nm0 ++ nm1
abbrev vw : Program := PySem.W.view R.prog [42]
abbrev hk : PySem.W.Hook := PHD.hookN bx fx vx
noncomputable abbrev EF (w : World) (os : OsState) : Option PySem.W.SharedT := HandSHeadRun.endF (HandSHeadRun.stepQ (HandSHeadRun.denQ HandSHeadRun.tabQ) R.prog w) 20000 R.prog w os
theorem r1 (w : World) (os : OsState) : (EF w os).map (fun s => HandSHeadRun.looksF R.prog (PySem.W.boot_heap w.params) s.abs) = some true := by
  kernel_rfl
theorem r2 (w : World) (os : OsState) : (EF w os).map (fun s => HandSHeadRun.seenQ vw nms (importedModules R.prog.main.body) (fun s => PySem.W.xlAt vw [] s && PySem.W.recOk R.toRowW.records s) s.abs) = some (PySem.W.openGood vw nms) := by
  kernel_rfl
theorem r3_0 (w : World) (os : OsState) : (EF w os).map (fun s => bp0 (He.frG (HandSHeadRun.getT s) (PHD.asL (HandSHeadRun.getT s)))) = some true := by
  kernel_rfl
theorem r3_1 (w : World) (os : OsState) : (EF w os).map (fun s => bp1 (He.frG (HandSHeadRun.getT s) (PHD.asL (HandSHeadRun.getT s)))) = some true := by
  kernel_rfl
theorem r3_2 (w : World) (os : OsState) : (EF w os).map (fun s => bp2 (He.frG (HandSHeadRun.getT s) (PHD.asL (HandSHeadRun.getT s)))) = some true := by
  kernel_rfl
theorem r3_3 (w : World) (os : OsState) : (EF w os).map (fun s => bp3 (He.frG (HandSHeadRun.getT s) (PHD.asL (HandSHeadRun.getT s)))) = some true := by
  kernel_rfl
theorem r3 (w : World) (os : OsState) : (EF w os).map (fun s => bx (He.frG (HandSHeadRun.getT s) (PHD.asL (HandSHeadRun.getT s)))) = some true := PHD.map_and (r3_0 w os) (PHD.map_and (r3_1 w os) (PHD.map_and (r3_2 w os) (r3_3 w os)))
theorem r4 (w : World) (os : OsState) : (EF w os).map (fun s => fx (He.frG (HandSHeadRun.getT s) (PHD.asL (HandSHeadRun.getT s)))) = some vx := by
  kernel_rfl
theorem r34 (w : World) (os : OsState) : (EF w os).map (fun s => PHD.obN bx fx s) = some (true, vx) := PHD.map2 (r3 w os) (r4 w os)
end PH
set_option maxHeartbeats 4000000
namespace PF
open PySem PySem.Spec PyProof.Rows L2 SlX
section
variable {X : Cx} {CX : CXT} {C g : Addr} {n : Nat} {sp : Sp} {E : XK}
def CDvz (_ j : Int) : Prop := j ≠ 0 ∧ j.natAbs.log2 < 9000
theorem op_fdivZ : OpR X (binaryOp .FloorDiv) (rI CDvz fun i j => .int (i.fdiv j)) :=
  opI fun _ _ _ _ _ _ _ c k => floordiv_int c.1 k (.inl (PyProof.noPylong_of_log2 c.2))
end
def FnG (P : Program) (w : World) (K : PySem.W.Frag) (mg : Str → Option Value) (base : Heap) (k : Nat) (f : Addr) (m : Nat) (sp : Sp) : Prop :=
  ∀ (Ar : Around) (out : List Env) (st : Shared) (G : Hp) (us : List Value) (vs : List V) (R : VK), Ar.guards = some [] → Room k Ar → Env0 P w K mg base Ar out st G → vs.length = m → Vals vs us → sp vs G R E0 →
    codeAny (model P w) Ar (.call (.ref f) ⟨us, []⟩) (CR CX0 out P w G st R E0) st
section
variable {P : Program} {w : World} {K : PySem.W.Frag} {mg : Str → Option Value} {base : Heap} {k : Nat} {f : Addr} {fd : FuncData} {N ps : List Str} {sp : Sp}
theorem FnG.mono {j : Nat} {m : Nat} (F : FnG P w K mg base j f m sp) (h : j ≤ k) : FnG P w K mg base k f m sp := fun Ar out st G us vs R a b => F Ar out st G us vs R a (b.mono h)
theorem FnG.of (F : FnOk P w K mg base CX0 k f fd ps sp) (b : Binds K fd ps []) : FnG P w K mg base k f ps.length sp := fun Ar out st G us vs R _ hr e0 hl r h => by
  have KX : K.In st.heap := e0.mod.kin.keeps fun b o e => (e0.bs b o e).1
  have l2 : us.length = ps.length := r.length.symm.trans hl
  have b2 := b st us KX (by simpa using l2)
  rw [List.append_nil] at b2
  exact F.run Ar out st G ⟨us, []⟩ us vs R E0 hr e0 b2 r h
theorem Fun.okG {x qual : Str} {sm : Stmt} (F : Fun K x qual sm f fd) (S : FnScope N ps (defScope sm)) (b : Binds K fd ps [])
    (body : ∀ (cdv : Value) (Ar : Around) (out : List Env) (st : Shared) (G : Hp) (vs : List V) (R : VK), Ar.guards = some [] → Room k (Ar.deeper (envOfC qual (defScope sm) st.heap.objs.size f cdv)) → sp vs G R E0 →
      ∃ t, PSs (cxOf CX0 P w K mg base N qual (defScope sm) f cdv Ar out st G E0).nox (defBody sm) t ∧ t { nx := fun _ H' => R .non H', rt := R } (start N vs) G) : FnG P w K mg base (k + 1) f ps.length sp := by
  intro Ar out st G us vs R hg hr e0 hl r hsp
  obtain ⟨oc, od, kV, doc, pm, an, cdv, ct, osl, rfl, lk, hcd⟩ := F.ex
  have KX : K.In st.heap := e0.mod.kin.keeps fun b o e => (e0.bs b o e).1
  have l2 : us.length = ps.length := r.length.symm.trans hl
  have b2 := b st us KX (by simpa using l2)
  rw [List.append_nil] at b2
  have kinds : ∀ y ∈ ps.zip us, (defScope sm).names.lookup y.1 = some .local ∨ ((defScope sm).names.lookup y.1 = some .cell ∧ ((cellsFrom (st.heap.objs.size + 1) (defScope sm).names []).lookup y.1).isSome = true) := fun y hy =>
    (S.par y.1 (List.of_mem_zip (a := y.1) (b := y.2) hy).1).imp id fun q => ⟨q, PySem.W.cellsFrom_some _ _ _ (.inl q)⟩
  refine codeAny_call_function hr.depth (KX _ _ lk) rfl S.co S.gen rfl (PySem.W.codeRec_of KX hcd) (b2 _ _ _ _ (wpAny_newFunctionEnv_cells S.kind kinds fun ev hev s1 x => ?_))
  subst hev
  refine ⟨(e0.mod.nolimit.keeps fun b o e => (e0.bs b o e).1).keeps x.toInCall.keep, codeAny_func ?_⟩
  obtain ⟨t, ht, hq⟩ := body cdv Ar out st G vs R hg (hr.deeper _) hsp
  have J : Inv (cxOf CX0 P w K mg base N qual (defScope sm) f cdv Ar out st G E0) [] (start N vs) G s1 := inv_start S hr.hd e0 hl r x
  refine wpAny_mono (ht.nox.run [] s1 (start N vs) G _ J hq) (fun fl s' hs => ?_) fun _ _ z => z
  cases fl with
  | ret u => obtain ⟨v, _, G', J', rv, q⟩ := hs; exact ⟨v, G', J'.os, J'.bare, J'.base, J'.hok, rv, q⟩
  | next => obtain ⟨_, G', J', q⟩ := hs; exact ⟨V.non, G', J'.os, J'.bare, J'.base, J'.hok, rfl, q⟩
  | brk => obtain ⟨_, _, _, q⟩ := hs; exact q.elim
  | cont => obtain ⟨_, _, _, q⟩ := hs; exact q.elim
end
section
variable {X : Cx} {k m : Nat} {f : Addr} {sp : Sp} {x : Str} {p pos : Pos} {e : Expr} {es : List Expr} {t : TA}
theorem run_fnG {pins : List (Addr × Obj)} {st : Shared} {sg : L2.St} {G : Hp} {R : VK} {us : List Value} {vs : List V} (F : FnG X.prog X.w X.K X.mg X.base k f m sp) (hg : X.A.guards = some []) (hr : Room k X.A)
    (J : Inv X pins sg G st) (r : Vals vs us) (hl : vs.length = m) (h : sp vs G R E0) : wpAny (model X.prog X.w) X.A (call (.ref f) us) (EP X pins sg R) X.xe st := by
  refine wpAny_call (codeAny_mono (F X.A X.stack st G us vs R hg hr J.env0 hl r h) fun rr s' hq => ?_)
  cases rr with
  | error e => exact hq.elim
  | ok fl => cases fl with
    | ret u => exact J.after hq
    | next => exact hq.elim
    | brk => exact hq.elim
    | cont => exact hq.elim
def rRepr (K : PySem.W.Frag) : List V → Hp → VK → Prop := fun xs H Q => ∃ v d, xs = [v] ∧ Dp K H v d ∧ d.showable = true ∧ d.hasDict = false ∧ d.shown.length ≤ sizeLine ∧ d.depth ≤ 64 ∧ Q (.str d.shown) H
theorem call_repr (hg : X.A.guards = some []) (hu : X.A.units + 100 < cLine) : CallR X (.builtin "repr") (rRepr X.K) := by
  intro pins st sg G xs us R J r h
  obtain ⟨v, d, rfl, hd, h1, h2, h3, h4, q⟩ := h
  obtain ⟨u, rfl, ru⟩ := r.one
  obtain ⟨as, rd⟩ := Dp.reads J d v u hd ru
  cases rd with
  | none => exact PySem.P.repr_of_none ⟨V.str (PyData.shown .none), G, J.tok _, ⟨_, rfl⟩, q⟩
  | bool b => exact PySem.P.repr_of_bool ⟨V.str (PyData.shown (.bool b)), G, J.tok _, ⟨_, rfl⟩, q⟩
  | int i t => exact PySem.P.repr_of_int (by simpa [PyData.showable] using h1) ⟨V.str (PyData.shown (.int i)), G, J.tok _, ⟨_, rfl⟩, q⟩
  | str x t => exact PySem.P.repr_of_str ⟨V.str (PyData.shown (.str x)), G, J.tok _, ⟨_, rfl⟩, q⟩ (by simpa only [PyData.shown] using h3)
  | list a1 a2 a3 a4 =>
    exact repr_of_reads' (.list a1 a2 a3 a4) h1 (fun z => by rw [h2] at z; cases z) hg (by omega) (fun _ _ e => e) (fun h' u tk hk => ⟨V.str (PyData.shown _), G, J.kept hk, ⟨_, rfl⟩, q⟩) h3
  | tuple a1 a2 a3 a4 =>
    exact repr_of_reads' (.tuple a1 a2 a3 a4) h1 (fun z => by rw [h2] at z; cases z) hg (by omega) (fun _ _ e => e) (fun h' u tk hk => ⟨V.str (PyData.shown _), G, J.kept hk, ⟨_, rfl⟩, q⟩) h3
  | dict _ _ _ _ _ => cases h2
end
theorem law_end {P : Program} {w : World} {K : PySem.W.Frag} {mg mb : Str → Option Value} {k : Nat} {fa a : Addr} {sp : Sp} {st : Shared} {vs : List Value} {ns : List Int}
    (KX : K.In st.heap) (g1 : st.heap.Ns mainGlobals mg) (g2 : st.heap.Ns builtinsNs mb) (g3 : ∀ x : Str, x ≠ "__name__" → mb x = bootBuiltins x) (lim : st.heap.NoLimit) (gn : st.gens = #[])
    (ha : st.heap.get? a = some { cls := .type "list", data := .seq vs.toArray }) (hi : IntsAre vs ns) (hl : ns.length ≤ sizeLine) (hr : Room k callerA)
    (F : ∀ base : Heap, K.In base → base.Ns mainGlobals mg → FnG P w K mg base k fa 1 sp)
    (hsp : ∀ G : Hp, Only G → SqL K G a (ns.map V.int) → sp [.ref a] G (fun v _ => v = .bl true) E0) :
    codeAny (model P w) callerA (.call (.ref fa) ⟨[.ref a], []⟩) (fun r s' => r = .ok (.ret (.bool true)) ∧ OldK st.heap s'.heap ∧ s'.os = st.os ∧ AllBare s'.gens) st := by
  have rv := vals_ints hi
  have lv := hi.length
  have core : ∀ G : Hp, Only G → SqL K G a (ns.map V.int) → HOk P w G st.heap → (∀ b u, G b = some u → b = a ∧ K.lookup a = none) →
      codeAny (model P w) callerA (.call (.ref fa) ⟨[.ref a], []⟩) (fun r s' => r = .ok (.ret (.bool true)) ∧ OldK st.heap s'.heap ∧ s'.os = st.os ∧ AllBare s'.gens) st := by
    intro G hO hS ok hA
    have free : ∀ b o, st.heap.get? b = some o → (∀ n, o.data ≠ .seq vs.toArray n) ∨ K.lookup b = some o → G b = none := fun b o e z => by
      cases q : G b with
      | none => rfl
      | some u =>
        obtain ⟨rfl, hk⟩ := hA b u q
        rcases z with z | z
        · rw [ha] at e; cases e; exact absurd rfl (z _)
        · rw [hk] at z; cases z
    have nsK : ∀ {b : Addr} {m : Str → Option Value}, st.heap.Ns b m → (hidT st.heap G).Ns b m := fun ⟨o, es, ep, e, d, r⟩ =>
      ⟨o, es, ep, hidT_get e (free _ o e (.inl fun n z => by rw [d] at z; cases z)), d, r⟩
    have kb : K.In (hidT st.heap G) := fun b o e => hidT_get (KX b o e) (free b o (KX b o e) (.inr e))
    have M : Mod K mg (hidT st.heap G) := ⟨kb, nsK g1, ⟨mb, nsK g2, g3⟩, let ⟨mc, h1, h2⟩ := lim; ⟨mc, nsK h1, h2⟩⟩
    have e0 : Env0 P w K mg (hidT st.heap G) callerA [] st G := ⟨rfl, M, fun b o e => of_hidT e, Nat.le_of_eq (hidT_size _ _), trivial, fun b hb => (nomatch (show b ∈ ([] : List Addr) from hb)), ok, .of_eq gn⟩
    refine codeAny_mono (F _ kb (nsK g1) callerA [] st G [.ref a] [.ref a] _ rfl hr e0 rfl (.cons rfl .nil) (hsp G hO hS)) fun rr s' h => ?_
    cases rr with
    | error e => exact h.elim
    | ok fl => cases fl with
      | next => exact h.elim
      | brk => exact h.elim
      | cont => exact h.elim
      | ret u =>
        obtain ⟨v, G', os, bare, un, ok', r', q⟩ := h
        subst q
        obtain rfl : u = Value.bool true := r'
        refine ⟨rfl, OldK.of_keep fun b o e => ?_, os, bare⟩
        rcases hO b with z | ⟨ob, xs, z⟩
        · exact un.keep b o e z (fun y => (nomatch (show b ∈ ([] : List Addr) from y))) (by simp)
        · obtain ⟨e1, _⟩ := ok b _ z
          obtain ⟨e2, _⟩ := ok' b _ (un.frzs b ob _ z)
          rw [e] at e1; cases e1; exact e2
  cases hk : K.lookup a with
  | some o =>
    have e := KX a o hk
    rw [ha] at e; cases e
    exact core (fun _ => none) (fun _ => .inl rfl) (.inr ⟨_, vs.toArray, _, hk, rfl, rfl, rfl, by rw [List.size_toArray, lv]; exact hl, by simpa using rv⟩) (fun b u z => by have y : (none : Option HO) = some u := z; cases y) fun b u z => by have y : (none : Option HO) = some u := z; cases y
  | none =>
    refine core (fun b => if b = a then some (.frz { cls := .type "list", data := .seq vs.toArray } (.lst (ns.map V.int))) else none) (fun b => ?_) (.inl (.inr ⟨{ cls := .type "list", data := .seq vs.toArray }, if_pos rfl⟩)) (fun b u z => ?_) fun b u z => ?_
    · by_cases y : b = a
      · exact .inr ⟨_, _, if_pos y⟩
      · exact .inl (if_neg y)
    · by_cases y : b = a
      · have z' := (if_pos y).symm.trans z
        cases z'; subst y
        exact ⟨ha, by rw [List.length_map]; exact hl, vs, _, rv, ha⟩
      · have z' := (if_neg y).symm.trans z
        cases z'
    · by_cases y : b = a
      · exact ⟨y, hk⟩
      · have z' := (if_neg y).symm.trans z
        cases z'
theorem walk_g {l : PySem.W.OpenLaw} {n k : Nat} {q : Program} {loose : List Str} {XP : (Str → Option Value) → Heap → Prop} {YP : World → Heap → Prop} {d : DefRec}
    (hn : l.most = some n) (hn2 : n ≤ sizeLine) (hdf : d.params.defaults = []) (hr : Room k callerA)
    (F : ∀ (w : World) (mg : Str → Option Value) (fa : Addr) (h : Heap), YP w h → h.Ns mainGlobals mg → mg d.name = some (.ref fa) →
      ∃ (K : PySem.W.Frag) (sp : Sp), K.In h ∧ (∀ (G : Hp) (a : Addr) (ns : List Int), ns.length ≤ n → Only G → SqL K G a (ns.map V.int) → sp [.ref a] G (fun v _ => v = .bl true) E0) ∧
        ∀ base : Heap, K.In base → base.Ns mainGlobals mg → FnG l.prog w K mg base k fa 1 sp) :
    PySem.W.WalkO q loose XP YP l.row.toRowW d [] (fun f vs => PySem.call f vs) := by
  refine Att.attach_call hn hdf fun w _ s1 mg mb fa _ _ _ _ a vs ns Gr Y _ _ _ hmg hobj hints hlen hg => ?_
  obtain ⟨K, sp, KX, hsp, hF⟩ := F w mg fa _ Y Gr.T.g hmg
  exact law_end KX Gr.T.g Gr.T.b Gr.T.builtins Gr.T.nolimit hg hobj hints (Nat.le_trans hlen hn2) hr hF fun G hO hS => hsp G a ns hlen hO hS
structure GD (P : Program) (w : World) (K : PySem.W.Frag) (mg : Str → Option Value) (base : Heap) (x : Str) (k : Nat) (sp : Sp) : Prop where
  ex : ∃ f fd ps, mg x = some (.ref f) ∧ PySem.W.keepIn K (.ref f) = true ∧ Binds K fd ps [] ∧ FnOk P w K mg base CX0 k f fd ps sp
structure GG (P : Program) (w : World) (K : PySem.W.Frag) (mg : Str → Option Value) (base : Heap) (x : Str) (k m : Nat) (sp : Sp) : Prop where
  ex : ∃ f, mg x = some (.ref f) ∧ PySem.W.keepIn K (.ref f) = true ∧ FnG P w K mg base k f m sp
theorem GD.gg {P : Program} {w : World} {K : PySem.W.Frag} {mg : Str → Option Value} {base : Heap} {x : Str} {k m : Nat} {sp : Sp} (G : GD P w K mg base x k sp) (h : ∀ vs H Q E, sp vs H Q E → vs.length = m) : GG P w K mg base x k m sp := by
  obtain ⟨f, fd, ps, h1, h2, h3, h4⟩ := G.ex
  refine ⟨f, h1, h2, fun Ar out st G2 us vs R hg hr e0 hl r hs => ?_⟩
  have e : ps.length = m := (h4.len _ _ _ _ hs).symm.trans (h _ _ _ _ hs)
  exact FnG.of h4 h3 Ar out st G2 us vs R hg hr e0 (hl.trans e.symm) r hs
section
variable {X : Cx} {k m : Nat} {sp : Sp} {x : Str} {p pos : Pos} {e : Expr} {es : List Expr} {t : TA}
theorem pe_c1 (G : GD X.prog X.w X.K X.mg X.base x k sp) (hr : Room k X.A) (ha : PA X (e :: es) t) (gl : Gl X x := by rfl) (hdb : (x == ("__debug__" : Str)) = false := by decide)
    (he : starEach (e :: es) X.env = (false, eval e X.env) :: starEach es X.env := by rfl) (hpl : (backTo pos (starEach es X.env)).any (·.1) = false := by rfl) : PE X (.Call (.Name x p) (e :: es) [] pos) (tCall sp [] E0 t) := by
  obtain ⟨f, fd, ps, h1, h2, h3, h4⟩ := G.ex
  exact pe_call h4 hr gl h1 h2 h3 .nil pass0 ha hdb he hpl
def tCallG (sp : Sp) (m : Nat) (t : TA) : TE := fun σ H Q => t σ H fun vs H1 => vs.length = m ∧ sp vs H1 Q E0
theorem pe_gd (G : GG X.prog X.w X.K X.mg X.base x k m sp) (hg : X.A.guards = some []) (hr : Room k X.A) (ha : PA X (e :: es) t) (gl : Gl X x := by rfl) (hdb : (x == ("__debug__" : Str)) = false := by decide)
    (he : starEach (e :: es) X.env = (false, eval e X.env) :: starEach es X.env := by rfl) (hpl : (backTo pos (starEach es X.env)).any (·.1) = false := by rfl) : PE X (.Call (.Name x p) (e :: es) [] pos) (tCallG sp m t) := by
  obtain ⟨f, h1, h2, h4⟩ := G.ex
  refine ⟨fun pins st sg G R J h => wpAny_Call_Name_kw (ld_glob J gl h1 ?_ hdb)⟩
  refine PySem.W.callWith_K (h₀ := X.base) J.ok.mod.kin h2 (thn (ha.run pos pins st sg G _ J h) fun us s1 ⟨vs, G1, J1, r, hl, q⟩ => ⟨J1.kIn, ?_⟩) he hpl
  exact run_fnG h4 hg hr J1 r hl q
end
structure GM (P : Program) (w : World) (K : PySem.W.Frag) (mg : Str → Option Value) (base : Heap) (x : Str) (C : Addr) (k : Nat) (dvs : List V) (sp : Sp) : Prop where
  ex : ∃ f fd ps ds, mg x = some (.ref C) ∧ Mk K C f ∧ Binds K fd ps ds ∧ Vals dvs ds ∧ FnOk P w K mg base CX0 k f fd ps sp
theorem pe_m1 {X : Cx} {k : Nat} {sp : Sp} {x : Str} {C : Addr} {dvs : List V} {p pos : Pos} {e : Expr} {es : List Expr} {t : TA} (G : GM X.prog X.w X.K X.mg X.base x C k dvs sp) (hr : Room (k + 1) X.A) (ha : PA X (e :: es) t) (gl : Gl X x := by rfl) (hdb : (x == ("__debug__" : Str)) = false := by decide)
    (he : starEach (e :: es) X.env = (false, eval e X.env) :: starEach es X.env := by rfl) (hpl : (backTo pos (starEach es X.env)).any (·.1) = false := by rfl) : PE X (.Call (.Name x p) (e :: es) [] pos) (tMake C sp dvs E0 t) := by
  obtain ⟨f, fd, ps, ds, h1, h2, h3, h4, h5⟩ := G.ex
  exact pe_make h2 h5 hr gl h1 h3 h4 pass0 ha hdb he hpl
theorem fnR_of {P : Program} {w : World} {K : PySem.W.Frag} {mg : Str → Option Value} {base : Heap} {k : Nat} {f : Addr} {fd : FuncData} {ps : List Str} {sp : Sp} (F : FnOk P w K mg base CX0 k f fd ps sp) (b : Binds K fd ps []) : FnR P w K mg base CX0 k f sp := fun Ar out st G us vs R E hr e0 r h => by
  have KX : K.In st.heap := e0.mod.kin.keeps fun b o e => (e0.bs b o e).1
  have l2 : us.length = ps.length := r.length.symm.trans (F.len _ _ _ _ h)
  have b2 := b st us KX (by simpa using l2)
  rw [List.append_nil] at b2
  exact F.run Ar out st G ⟨us, []⟩ us vs R E hr e0 b2 r h
structure GP (P : Program) (w : World) (K : PySem.W.Frag) (mg : Str → Option Value) (base : Heap) (C : Addr) (f : Str) (k : Nat) (sp : Sp) : Prop where
  ex : ∃ p g, PySem.W.findIn K (.ref C) f = some (some (.ref p)) ∧ PySem.W.specialIn K (.ref p) "__get__" = some (some (.builtin "property.__get__")) ∧ PySem.W.takesIn K (.ref p) = some true ∧ (∃ rest, PySem.W.recIn K p "property" = some (.ref g :: rest)) ∧ FnR P w K mg base CX0 k g sp
theorem pe_p1 {X : Cx} {C : Addr} {f : Str} {k : Nat} {sp : Sp} {e : Expr} {te : TE} {pos : Pos} (c : SCls X.K C) (G : GP X.prog X.w X.K X.mg X.base C f k sp) (hr : Room (k + 1) X.A) (he : PE X e te) (hb : attributeBase e f X.env (eval e X.env) = eval e X.env := by rfl) : PE X (.Attribute e f pos) (tPropSl C sp E0 te) := by
  obtain ⟨p, g, h1, h2, h3, h4, h5⟩ := G.ex
  exact pe_propSl he c h1 h2 h3 h4 h5 hr (fun _ _ _ _ h => h) hb
structure GMe (P : Program) (w : World) (K : PySem.W.Frag) (mg : Str → Option Value) (base : Heap) (C : Addr) (m : Str) (k : Nat) (sp : Sp) : Prop where
  ex : ∃ g, Meth K C m g ∧ FnR P w K mg base CX0 k g sp
structure GB (P : Program) (w : World) (K : PySem.W.Frag) (mg : Str → Option Value) (base : Heap) (C : Addr) (op : Operator) (k : Nat) (sp : Sp) : Prop where
  ex : ∃ g, PySem.W.findIn K (.ref C) (PySem.dunder op.info.2) = some (some (.ref g)) ∧ PySem.W.isFn K (.ref g) = true ∧ FnR P w K mg base CX0 k g sp
  first : PySem.W.selfFirst K C = true
  right : ∃ fo ro rc, PySem.W.findIn K (.ref C) (PySem.dunderR op.info.2) = some rc ∧ (rc = none ∨ ∃ g : Addr, rc = some (.ref g)) ∧ PySem.W.findIn K (.type "int") (PySem.dunder op.info.2) = some fo ∧ PySem.W.findIn K (.type "int") (PySem.dunderR op.info.2) = some ro ∧ PySem.W.subIn K (.type "int") (.ref C) = some false
structure GN (P : Program) (w : World) (K : PySem.W.Frag) (mg : Str → Option Value) (base : Heap) (C : Addr) (k : Nat) (sp : Sp) : Prop where
  ex : ∃ g, PySem.W.findIn K (.ref C) "__neg__" = some (some (.ref g)) ∧ PySem.W.isFn K (.ref g) = true ∧ FnR P w K mg base CX0 k g sp
structure GE (P : Program) (w : World) (K : PySem.W.Frag) (mg : Str → Option Value) (base : Heap) (C : Addr) (k : Nat) (sp : Sp) : Prop where
  ex : ∃ g, PySem.W.findIn K (.ref C) "__eq__" = some (some (.ref g)) ∧ PySem.W.isFn K (.ref g) = true ∧ FnR P w K mg base CX0 k g sp
  ne : PySem.W.findIn K (.ref C) "__ne__" = some (some (.builtin "object.__ne__"))
  ob : PySem.W.mroIn K C (.type "object") = some true
def tSlC (C : Addr) (i : Nat) (ta : TE) : TE := fun σ H Q => ta σ H fun x H1 => ∃ a dx vs v, x = .ref a ∧ Slt H1 a C dx vs ∧ vs[i]? = some (some v) ∧ Q v H1
def sSlC (C : Addr) (i : Nat) (ta tv : TE) : TS := fun D σ H => tv σ H fun y H1 => ta σ H1 fun x H2 => ∃ a dx vs, x = .ref a ∧ Slt H2 a C dx vs ∧ D.nx σ (slH H2 a C dx (putS i y vs))
section
variable {X : Cx} {o e value : Expr} {f : Str} {pos pos' : Pos} {ta tv te : TE} {C p : Addr} {i : Nat}
theorem pe_slC (c : SCls X.K C) (s : ∃ p, Slot1 X.K C f p i) (he : PE X e te) (hb : attributeBase e f X.env (eval e X.env) = eval e X.env := by rfl) : PE X (.Attribute e f pos) (tSlC C i te) := by
  refine ⟨fun pins st sg G R J h => attr_of hb (thn (he.run pins st sg G _ J h) fun u s1 ⟨x, G1, J1, rx, a, dx, vs, v, ex, hs, hv, q⟩ => ?_)⟩
  obtain ⟨p, s⟩ := s
  subst ex
  obtain rfl : u = Value.ref a := rx
  exact getslot_ok J1 hs c s hv fun u' s2 J2 ru => ⟨v, G1, J2, ru, q⟩
theorem ps_slC (c : SCls X.K C) (s : ∃ p, Slot1 X.K C f p i) (ha : PE X o ta) (hv : PE X value tv) (hs : swapsWith value (some (.Attribute o f pos')) pos.line X.env = pure false := by rfl) : PS X (.Assign [.Attribute o f pos'] value pos) (sSlC C i ta tv) := by
  refine ⟨fun pins st sg G D J h => ?_⟩
  refine plainObj_wpAny_Assign_Attribute (thn (hv.run pins st sg G _ J h) fun u s1 ⟨y, G1, J1, ry, q⟩ => thn (ha.run pins s1 sg G1 _ J1 q) fun ov s2 ⟨x, G2, J2, rx, a, dx, vs, ex, hsl, q2⟩ => ?_) hs
  obtain ⟨p, s⟩ := s
  subst ex
  obtain rfl : ov = Value.ref a := rx
  exact setslot_ok J2 hsl c s ry fun s3 J3 => ⟨sg, _, J3, q2⟩
end
theorem hu64 {A : Around} {k : Nat} (hr : Room k A) : A.units + 64 < cLine := by have := hr.un; omega
theorem hu100 {A : Around} {k : Nat} (hr : Room k A) : A.units + 100 < cLine := by have := hr.un; omega
theorem ite_dec {c : Prop} [Decidable c] {A B : Prop} (h : c → A) (k : ¬ c → B) : if decide c = true then A else B := by
  by_cases z : c
  · rw [decide_eq_true z, if_pos rfl]; exact h z
  · rw [decide_eq_false z, if_neg Bool.false_ne_true]; exact k z
theorem ite_ndec {c : Prop} [Decidable c] {A B : Prop} (h : ¬ c → A) (k : c → B) : if (!decide c) = true then A else B := by
  by_cases z : c
  · rw [decide_eq_true z]; exact k z |> fun y => by simpa using y
  · rw [decide_eq_false z]; have y := h z; simpa using y
inductive TyY (K : PySem.W.Frag) (H : Hp) : V → Value → Prop where
  | x {v : V} {t : Value} (h : TyX K H v t) : TyY K H v t
  | slt {a C dx : Addr} {vs : List (Option V)} (h : Slt H a C dx vs) (c : SCls K C) (i : SIsi K C) : TyY K H (.ref a) (.ref C)
def rIsiU (K : PySem.W.Frag) : List V → Hp → VK → Prop := fun xs H Q => ∃ (x c : V) (t u : Value) (b : Bool), xs = [x, c] ∧ ClsV c u ∧ TyY K H x t ∧ PySem.W.kitOne K t u = some b ∧ Q (.bl b) H
theorem call_isiU {X : Cx} : CallR X (.builtin "isinstance") (rIsiU X.K) := by
  intro pins st sg G xs us R J r h
  obtain ⟨x, c, t, u, b, rfl, hc, ty, hk, q⟩ := h
  cases ty with
  | x ty => exact call_isi pins st sg G _ us R J r ⟨x, c, t, u, b, rfl, hc, ty, hk, q⟩
  | slt hs c' i => exact call_isiSl u pins st sg G _ us R J r ⟨_, _, _, _, c, b, rfl, by cases hc <;> rfl, fun w rw => hc.eq rw, hs, c', i, hk, q⟩
def Bd (n : Nat) (i : Int) : Prop := i.natAbs < 2 ^ n
theorem Bd.mono {n m : Nat} {i : Int} (h : Bd n i) (l : n ≤ m) : Bd m i := Nat.lt_of_lt_of_le h (Nat.pow_le_pow_right (by decide) l)
theorem Bd.mul {n m : Nat} {i j : Int} (h : Bd n i) (k : Bd m j) : Bd (n + m) (i * j) := wide_lt h k
theorem Bd.add {n m : Nat} {i j : Int} (h : Bd n i) (k : Bd n j) (l : n + 1 = m) : Bd m (i + j) := by
  unfold Bd at *; subst l; rw [Nat.pow_succ]; omega
theorem Bd.sub {n m : Nat} {i j : Int} (h : Bd n i) (k : Bd n j) (l : n + 1 = m) : Bd m (i - j) := by
  unfold Bd at *; subst l; rw [Nat.pow_succ]; omega
theorem Bd.le {n : Nat} {i j : Int} (h : Bd n j) (l : i.natAbs ≤ j.natAbs) : Bd n i := Nat.lt_of_le_of_lt l h
theorem Bd.mulx {n m : Nat} {i j : Int} (h : Bd n i) (k : Bd m j) (l : n + m ≤ 134217728) : CMulX i j := mulx_ok h k l
theorem Bd.dvz {n : Nat} {i j : Int} (h : Bd n j) (h0 : j ≠ 0) (l : n ≤ 9000) : CDvz i j := by
  refine ⟨h0, ?_⟩
  have a : j.natAbs ≠ 0 := by omega
  have b := (Nat.log2_lt a).mpr h
  omega
theorem bd_sm {i : Int} {n : Nat} (h : i.natAbs < 1024) (l : 10 ≤ n) : Bd n i := Nat.lt_of_lt_of_le h (Nat.le_trans (show 1024 ≤ 2 ^ 10 by decide) (Nat.pow_le_pow_right (by decide) l))
structure Nm where
  t : Int
  p : Int
  r : Int
  b : Int
deriving DecidableEq
def gcd3 (t p b : Int) : Int := ((Nat.gcd (Nat.gcd t.natAbs p.natAbs) b.natAbs : Nat) : Int)
def share (t p b : Int) : Int := if 0 < b then gcd3 t p b else -gcd3 t p b
def mkNm (t p r b : Int) : Nm := ⟨t.fdiv (share t p b), p.fdiv (share t p b), if p = 0 then 0 else r, b.fdiv (share t p b)⟩
def b2 (c : Bool) : Int := if c then 1 else 0
def isq (n : Nat) : Nat := if h : n = 0 then 0 else if (2 * isq (n / 4) + 1) * (2 * isq (n / 4) + 1) ≤ n then 2 * isq (n / 4) + 1 else 2 * isq (n / 4)
termination_by n
decreasing_by all_goals omega
theorem isq_ok (n : Nat) : isq n * isq n ≤ n ∧ n < (isq n + 1) * (isq n + 1) := by
  induction n using Nat.strongRecOn with
  | ind n ih =>
    rw [isq]
    split
    · next h => subst h; decide
    · next h =>
      obtain ⟨h1, h2⟩ := ih (n / 4) (by omega)
      generalize isq (n / 4) = q at *
      have e1 : (2 * q) * (2 * q) = 4 * (q * q) := by grind
      have e2 : (2 * q + 1 + 1) * (2 * q + 1 + 1) = 4 * ((q + 1) * (q + 1)) := by grind
      split
      · next h3 => exact ⟨h3, by rw [e2]; omega⟩
      · next h3 => exact ⟨by rw [e1]; omega, by omega⟩
def isRootB (v : Int) : Bool := decide (2 ≤ v) && decide (v ≤ 999) && ((List.range (isq v.toNat - 1)).map fun i : Nat => !decide (v.fmod ((2 + (i : Int)) * (2 + (i : Int))) = 0)).all id
theorem isq_le {n q : Nat} (h : n < (q + 1) * (q + 1)) : isq n ≤ q := by
  have h1 := (isq_ok n).1
  refine Nat.le_of_not_lt fun l => ?_
  have := Nat.mul_le_mul (show q + 1 ≤ isq n from l) (show q + 1 ≤ isq n from l)
  omega
theorem le_isq {n q : Nat} (h : q * q ≤ n) : q ≤ isq n := by
  have h1 := (isq_ok n).2
  refine Nat.le_of_not_lt fun l => ?_
  have := Nat.mul_le_mul (show isq n + 1 ≤ q from l) (show isq n + 1 ≤ q from l)
  omega
theorem newton_ge {a f r : Nat} (hf : 0 < f) (hr : r * r ≤ a) : r ≤ (f + a / f) / 2 := by
  have h1 : a < (a / f + 1) * f := Nat.lt_mul_of_div_lt (Nat.lt_succ_self _) hf
  generalize a / f = q at *
  refine Nat.le_of_not_lt fun l => ?_
  have l2 : f + (q + 1) ≤ 2 * r := by omega
  have l3 := Nat.mul_le_mul l2 l2
  have e : (f + (q + 1)) * (f + (q + 1)) + 0 = (f + (q + 1)) * (f + (q + 1)) := rfl
  rcases Nat.le_total f (q + 1) with c | c
  · obtain ⟨d, hd⟩ := Nat.exists_eq_add_of_le c
    rw [hd] at l3 h1
    have : (f + (f + d)) * (f + (f + d)) = 4 * ((f + d) * f) + d * d := by grind
    have : 2 * r * (2 * r) = 4 * (r * r) := by grind
    omega
  · obtain ⟨d, hd⟩ := Nat.exists_eq_add_of_le c
    rw [hd] at l3 h1
    have : (q + 1 + d + (q + 1)) * (q + 1 + d + (q + 1)) = 4 * ((q + 1) * (q + 1 + d)) + d * d := by grind
    have : 2 * r * (2 * r) = 4 * (r * r) := by grind
    omega
theorem newton_end {a f : Nat} (hf : 0 < f) (h : f ≤ (f + a / f) / 2) : f ≤ isq a := by
  refine le_isq ?_
  have h1 : f ≤ a / f := by omega
  exact Nat.le_trans (Nat.mul_le_mul_right f h1) (Nat.div_mul_le_self a f)
theorem isq_bits (a : Nat) {k : Nat} (h : a < 2 ^ (2 * k)) : isq a ≤ 2 ^ k := by
  refine isq_le (Nat.lt_of_lt_of_le h ?_)
  rw [show 2 * k = k + k by omega, Nat.pow_add]
  exact Nat.mul_le_mul (Nat.le_succ _) (Nat.le_succ _)
def cRoot (a b : Nm) : Int := if a.r = 0 then b.r else a.r
def Cm (a b : Nm) : Prop := a.r = 0 ∨ b.r = 0 ∨ a.r = b.r
def addN (a b : Nm) : Nm := mkNm (a.t * b.b + b.t * a.b) (a.p * b.b + b.p * a.b) (cRoot a b) (a.b * b.b)
def subN (a b : Nm) : Nm := mkNm (a.t * b.b - b.t * a.b) (a.p * b.b - b.p * a.b) (cRoot a b) (a.b * b.b)
def mulN (a b : Nm) : Nm := mkNm (a.t * b.t + a.p * b.p * cRoot a b) (a.t * b.p + a.p * b.t) (cRoot a b) (a.b * b.b)
def sizeN (a b : Nm) : Int := b.t * b.t - b.p * b.p * cRoot a b
def overN (a b : Nm) : Nm := mkNm ((a.t * b.t - a.p * b.p * cRoot a b) * b.b) ((a.p * b.t - a.t * b.p) * b.b) (cRoot a b) (sizeN a b * a.b)
structure Gd (k : Nat) (n : Nm) : Prop where
  b0 : n.b ≠ 0
  t : Bd k n.t
  p : Bd k n.p
  b : Bd k n.b
  r : Bd 10 n.r
  r0 : 0 ≤ n.r
theorem cRoot_bd {k : Nat} {a b : Nm} (h : Gd k a) (g : Gd k b) : Bd 10 (cRoot a b) := by
  unfold cRoot; split
  · exact g.r
  · exact h.r
theorem share_ne {t p b : Int} (h : b ≠ 0) : share t p b ≠ 0 := by
  unfold share gcd3
  have : 0 < Nat.gcd (Nat.gcd t.natAbs p.natAbs) b.natAbs := Nat.gcd_pos_of_pos_right _ (by omega)
  split <;> omega
theorem share_bd {t p b : Int} {n : Nat} (h : b ≠ 0) (k : Bd n b) : Bd n (share t p b) := by
  have l : Nat.gcd (Nat.gcd t.natAbs p.natAbs) b.natAbs ≤ b.natAbs := Nat.gcd_le_right _ (by omega)
  unfold Bd share gcd3 at *
  split <;> omega
structure Free (mg : Str → Option Value) : Prop where
  b_abs : mg "abs" = none
  b_all : mg "all" = none
  b_bool : mg "bool" = none
  b_int : mg "int" = none
  b_isinstance : mg "isinstance" = none
  b_len : mg "len" = none
  b_max : mg "max" = none
  b_min : mg "min" = none
  b_range : mg "range" = none
  b_repr : mg "repr" = none
  b_str : mg "str" = none
def spIsWhole (K : PySem.W.Frag) : Sp := fun vs H Q _ => ∃ x t b, vs = [x] ∧ TyY K H x t ∧ PySem.W.kitOne K t (.type "int") = some b ∧ (b = true → ∃ i, x = .int i) ∧ Q (.bl b) H
def spGcd : Sp := fun vs H Q _ => ∃ a b : Int, vs = [.int a, .int b] ∧ 0 ≤ a ∧ 0 ≤ b ∧ Q (.int ((Nat.gcd a.toNat b.toNat : Nat) : Int)) H
def spRoot : Sp := fun vs H Q _ => ∃ a : Int, vs = [.int a] ∧ 0 ≤ a ∧ Bd 8000 a ∧ Q (.int (isq a.toNat : Int)) H
def spIsRoot : Sp := fun vs H Q _ => ∃ a : Int, vs = [.int a] ∧ ∀ H', Same H H' → Q (.bl (isRootB a)) H'
section
variable {P : Program} {w : World} {K : PySem.W.Frag} {mg : Str → Option Value} {base : Heap} {f : Addr} {fd : FuncData}
theorem sc_is_whole : FnScope ["value"] ["value"] (defScope (topS 6)) := ⟨rfl, rfl, rfl, by decide +kernel, rfl, by decide +kernel, by decide +kernel⟩
theorem ok_is_whole (F : Fun K "is_whole" "is_whole" (topS 6) f fd) (fr : Free mg) : FnOk P w K mg base CX0 2 f fd ["value"] (spIsWhole K) := by
  refine F.ok sc_is_whole (fun vs H Q E ⟨_, _, _, e, _⟩ => by rw [e]; rfl) (fun cdv A outer s H vs Q E hr h => ⟨_, (pss_one (ps_ret (pe_and (pe_callB call_isiU (by rfl) fr.b_isinstance (by decide +kernel) (pa_cons (pv 0) (pa_cons (pe_bltn (v := .ty "int") (by rfl) fr.b_int (by decide +kernel) rfl) pa_nil))) (pe_one (pe_not (pe_callB call_isiU (by rfl) fr.b_isinstance (by decide +kernel) (pa_cons (pv 0) (pa_cons (pe_bltn (v := .ty "bool") (by rfl) fr.b_bool (by decide +kernel) rfl) pa_nil)))))))), ?_⟩)
  obtain ⟨x, t, b, rfl, ty, hk, hi, q⟩ := h
  refine ⟨x, rfl, x, .ty "int", t, _, b, rfl, .ty _, ty, hk, b, rfl, ?_⟩
  cases b with
  | false => exact q
  | true =>
    obtain ⟨i, rfl⟩ := hi rfl
    exact ⟨_, rfl, _, .ty "bool", _, _, false, rfl, .ty _, .x (.base (.int i)), kit_ty (by decide +kernel), false, rfl, q⟩
theorem sc_greatest_divisor : FnScope ["one", "other"] ["one", "other"] (defScope (topS 7)) := ⟨rfl, rfl, rfl, by decide +kernel, rfl, by decide +kernel, by decide +kernel⟩
theorem ok_gcd (F : Fun K "greatest_divisor" "greatest_divisor" (topS 7) f fd) : FnOk P w K mg base CX0 2 f fd ["one", "other"] spGcd := by
  refine F.ok sc_greatest_divisor (fun vs H Q E ⟨_, _, e, _⟩ => by rw [e]; rfl) (fun cdv A outer s H vs Q E hr h => ⟨_, (pss_cons (ps_while PassesOwn.never (pt_cmpR op_ne (pv 1) pe_int (nomark _)) (pss_one (ps_par (i := 0) (j := 1) (by rfl) sc_greatest_divisor.nd rfl rfl (by decide) rfl rfl (pa_cons (pv 1) (pa_cons (pe_op op_modN (pv 0) (pv 1)) pa_nil)) (by rfl))))
  (pss_one (ps_ret (pv 0)))), ?_⟩)
  obtain ⟨a, b, rfl, ha, hb, q⟩ := h
  refine ⟨fun m σ H' => ∃ x y : Int, σ = [some (.int x), some (.int y)] ∧ 0 ≤ x ∧ 0 ≤ y ∧ Nat.gcd x.toNat y.toNat = Nat.gcd a.toNat b.toNat ∧ m = y.toNat ∧ H' = H, ⟨_, a, b, rfl, ha, hb, rfl, rfl, rfl⟩, ?_⟩
  rintro m σ H' ⟨x, y, rfl, hx, hy, hg, rfl, rfl⟩
  refine ⟨_, rfl, rfl, _, rfl, ?_⟩
  by_cases c : y = 0
  · subst c
    refine ⟨_, rfl, ?_⟩
    simp only [Int.toNat_zero, Nat.gcd_zero_right] at hg
    rw [show (x : Int) = ((Nat.gcd a.toNat b.toNat : Nat) : Int) by omega]
    exact q
  · rw [decide_eq_false (show ¬ V.int y = V.int 0 from fun e => c (V.int.inj e))]
    refine ⟨fun σ' H'' => σ' = [some (.int y), some (.int (x.fmod y))] ∧ H'' = H', ?_, ?_⟩
    · rintro _ _ ⟨rfl, rfl⟩
      have e : x.fmod y = x % y := Int.fmod_eq_emod_of_nonneg x hy
      have h1 : 0 ≤ x % y := Int.emod_nonneg x c
      have h2 : x % y < y := Int.emod_lt_of_pos x (by omega)
      refine ⟨_, ?_, y, x.fmod y, rfl, hy, by omega, ?_, rfl, rfl⟩
      · rw [e]; omega
      · rw [e, ← hg, show (x % y).toNat = x.toNat % y.toNat from Int.toNat_emod hx hy, Nat.gcd_comm x.toNat y.toNat, Nat.gcd_rec y.toNat x.toNat, Nat.gcd_comm]
    · exact ⟨_, rfl, _, rfl, _, rfl, _, _, rfl, rfl, c, _, _, rfl, rfl, rfl⟩
theorem sc_whole_root : FnScope ["square", "found", "less"] ["square"] (defScope (topS 8)) := ⟨rfl, rfl, rfl, by decide +kernel, rfl, by decide +kernel, by decide +kernel⟩
theorem ok_whole_root (F : Fun K "whole_root" "whole_root" (topS 8) f fd) : FnOk P w K mg base CX0 2 f fd ["square"] spRoot := by
  refine F.ok sc_whole_root (fun vs H Q E ⟨_, e, _⟩ => by rw [e]; rfl) (fun cdv A outer s H vs Q E hr h => ⟨_, (pss_cons (ps_if (pt_cmpR op_eq (pv 0) pe_int (nomark _)) (pss_one (ps_ret pe_int)) pss_nil)
  (pss_cons (ps_set (i := 1) sc_whole_root.nd rfl (by first | exact Or.inl rfl | exact Or.inr rfl) (pe_op op_shlW pe_int (pe_op op_fdivZ (pe_op op_add (pe_bits (pv 0)) pe_int) pe_int)))
  (pss_cons (ps_whileW PassesOwn.never (ptw_cmp op_lt (pew_named (i := 2) sc_whole_root.nd rfl (by first | exact Or.inl rfl | exact Or.inr rfl) (pew_of (pe_op op_fdivZ (pe_op op_add (pv 1) (pe_op op_fdivZ (pv 0) (pv 1))) pe_int))) (pv 1) (nomark _)) (pss_one (ps_set (i := 1) sc_whole_root.nd rfl (by first | exact Or.inl rfl | exact Or.inr rfl) (pv 2))) pss_nil)
  (pss_one (ps_ret (pv 1)))))), ?_⟩)
  obtain ⟨a, rfl, ha, hb, q⟩ := h
  refine ⟨_, rfl, rfl, _, rfl, ite_dec (fun c => ?_) fun c => ?_⟩
  · cases c
    rw [show isq (0 : Int).toNat = 0 by rw [isq]; rfl] at q
    exact q
  replace c : ¬ a = 0 := fun e => c (congrArg V.int e)
  have bits : Builtin.Int.intBits a = a.natAbs.log2 + 1 := by unfold Builtin.Int.intBits; rw [if_neg (by simpa using c)]
  have lt : a.toNat < 2 ^ Builtin.Int.intBits a := by
    rw [bits, show a.toNat = a.natAbs by omega]
    exact (Nat.log2_lt (by omega)).mp (Nat.lt_succ_self _)
  have lb : Builtin.Int.intBits a ≤ 8000 := by
    rw [bits]
    exact (Nat.log2_lt (by omega)).mpr hb
  generalize hn : Builtin.Int.intBits a = n at *
  have hk : ((n : Int) + 1).fdiv 2 = (((n + 1) / 2 : Nat) : Int) := by rw [Int.fdiv_eq_ediv_of_nonneg _ (by decide)]; omega
  obtain ⟨k, ek⟩ : ∃ k, k = (n + 1) / 2 := ⟨_, rfl⟩
  rw [← ek] at hk
  have r0 : isq a.toNat ≤ 2 ^ k := isq_bits _ (Nat.lt_of_lt_of_le lt (Nat.pow_le_pow_right (by decide) (by omega)))
  refine ⟨_, rfl, _, rfl, ?_⟩
  rw [hn]
  refine ⟨_, _, rfl, rfl, _, _, rfl, rfl, ⟨by decide, by decide⟩, ?_⟩
  dsimp only
  rw [hk]
  refine ⟨_, _, rfl, rfl, ⟨by omega, by rw [show Builtin.Int.intBits 1 = 1 by decide]; omega⟩, ?_⟩
  dsimp only
  rw [Int.toNat_natCast, Int.one_mul]
  refine ⟨fun m σ H' => ∃ (g : Nat) (y : Option V), σ = [some (.int a), some (.int (g : Int)), y] ∧ 0 < g ∧ g ≤ 2 ^ k ∧ isq a.toNat ≤ g ∧ g = m ∧ H' = H, ⟨_, 2 ^ k, none, ?_, Nat.two_pow_pos k, Nat.le_refl _, r0, rfl, rfl⟩, ?_⟩
  · rw [show ((2 ^ k : Nat) : Int) = (2 : Int) ^ k by simp]; rfl
  rintro m σ H' ⟨g, y, rfl, hg, hg2, hr0, rfl, rfl⟩
  have bg : Bd 9000 (g : Int) := by
    show (g : Int).natAbs < 2 ^ 9000
    rw [Int.natAbs_natCast]
    exact Nat.lt_of_le_of_lt hg2 (Nat.pow_lt_pow_right (by decide) (by omega))
  have e1 : a.fdiv (g : Int) = ((a.toNat / g : Nat) : Int) := by
    rw [Int.fdiv_eq_ediv_of_nonneg _ (by omega), Int.natCast_ediv, Int.toNat_of_nonneg ha]
  have e2 : ((g : Int) + a.fdiv (g : Int)).fdiv 2 = (((g + a.toNat / g) / 2 : Nat) : Int) := by
    rw [e1, Int.fdiv_eq_ediv_of_nonneg _ (by decide)]; omega
  refine ⟨_, rfl, _, rfl, _, rfl, _, _, rfl, rfl, bg.dvz (by omega) (Nat.le_refl _), _, _, rfl, rfl, _, _, rfl, rfl, ⟨by decide, by decide⟩, ?_⟩
  dsimp only
  rw [e2]
  refine ⟨_, rfl, _, _, rfl, rfl, _, rfl, ?_⟩
  have n1 := newton_ge hg (isq_ok a.toNat).1
  refine ite_dec (fun c2 => ?_) fun c2 => ?_
  · refine ⟨fun σ' H'' => σ' = [some (.int a), some (.int (((g + a.toNat / g) / 2 : Nat) : Int)), some (.int (((g + a.toNat / g) / 2 : Nat) : Int))] ∧ H'' = H', ?_, ?_⟩
    · rintro _ _ ⟨rfl, rfl⟩
      refine ⟨_, (show (g + a.toNat / g) / 2 < g by omega), _, _, rfl, ?_, by omega, n1, rfl, rfl⟩
      refine Nat.lt_of_lt_of_le ?_ n1
      exact Nat.lt_of_lt_of_le Nat.zero_lt_one (le_isq (by omega))
    · exact ⟨_, rfl, rfl, rfl⟩
  · have n2 := newton_end hg (show g ≤ (g + a.toNat / g) / 2 by omega)
    refine ⟨_, rfl, ?_⟩
    rw [show (g : Int) = (isq a.toNat : Int) by omega]
    exact q
theorem sc_is_root : FnScope ["value", "side"] ["value"] (defScope (topS 14)) := ⟨rfl, rfl, rfl, by decide +kernel, rfl, by decide +kernel, by decide +kernel⟩
theorem ok_is_root (F : Fun K "is_root" "is_root" (topS 14) f fd) (fr : Free mg) (g_MAX_ROOT : ∃ tk, mg "MAX_ROOT" = some (.int 999 tk)) (g_LEAST_ROOT : ∃ tk, mg "LEAST_ROOT" = some (.int 2 tk))
    (G_whole_root : GD P w K mg base "whole_root" 2 spRoot) (G_is_whole : GD P w K mg base "is_whole" 2 (spIsWhole K)) : FnOk P w K mg base CX0 3 f fd ["value"] spIsRoot := by
  obtain ⟨tk1, g_MAX_ROOT⟩ := g_MAX_ROOT
  obtain ⟨tk2, g_LEAST_ROOT⟩ := g_LEAST_ROOT
  refine F.ok sc_is_root (fun vs H Q E ⟨_, e, _⟩ => by rw [e]; rfl) (fun cdv A outer s H vs Q E hr h => ⟨_, (pss_cons (ps_if (PW.pt (pw_or (pt_not (pt_val (pe_c1 G_is_whole (hr.mono (by decide)) (pa_cons (pv 0) pa_nil)))) (pw_or1 (pt_not (pt_chain op_le op_le (pe_glob (v := .int 2) rfl g_LEAST_ROOT ⟨_, rfl⟩) (pv 0) (pe_glob (v := .int 999) rfl g_MAX_ROOT ⟨_, rfl⟩)))))) (pss_one (ps_ret pe_bl)) pss_nil)
  (pss_one (ps_ret (pe_callB (cr_all rfl) (by rfl) fr.b_all (by decide +kernel) (pa_cons (pe_lc (own := [("side", 1)]) (by rfl) sc_is_root.nd (pi_range2 (by rfl) fr.b_range (pa_cons pe_int (pa_cons (pe_op op_add (pe_c1 G_whole_root (hr.mono (by decide)) (pa_cons (pv 0) pa_nil)) pe_int) pa_nil))) (blkOk_by (own := [("side", 1)]) (N := ["value", "side"]) (sc := defScope (topS 14)) (by decide +kernel)) (fun _ _ _ _ _ => (pg_name (i := 1) sc_is_root.nd rfl (by first | exact Or.inl rfl | exact Or.inr rfl))) (fun _ _ _ _ _ => pts_nil) (fun _ _ _ _ _ => (pe_cmpR op_ne (pe_op op_modN (pv 0) (pe_op op_mulX (pv 1) (pv 1))) pe_int (nomark _)))) pa_nil))))), ?_⟩)
  obtain ⟨a, rfl, q⟩ := h
  unfold isRootB at q
  refine ⟨_, rfl, .int a, _, true, rfl, .x (.base (.int a)), kit_ty (by decide +kernel), fun _ => ⟨a, rfl⟩, true, rfl, ?_⟩
  have out : ¬ (2 ≤ a ∧ a ≤ 999) → Q (.bl false) H := fun c => by
    replace q := q H (Same.refl H)
    have e : (decide (2 ≤ a) && decide (a ≤ 999)) = false := by
      rw [Bool.and_eq_false_iff, decide_eq_false_iff_not, decide_eq_false_iff_not]; omega
    rw [e, Bool.false_and] at q
    exact q
  refine ⟨_, rfl, _, _, rfl, rfl, _, rfl, ite_dec (fun c => ?_) fun c => ?_⟩
  rotate_left
  · exact ⟨_, rfl, out (fun z => c z.1)⟩
  refine ⟨_, _, rfl, rfl, _, rfl, ?_⟩
  by_cases c2 : a ≤ 999
  rotate_left
  · rw [decide_eq_false c2]
    exact out fun z => c2 z.2
  rw [decide_eq_true c, decide_eq_true c2, Bool.true_and, Bool.true_and] at q
  rw [decide_eq_true c2]
  have rb : (isq a.toNat : Int) ≤ 31 := by
    have := isq_le (n := a.toNat) (q := 31) (by omega)
    omega
  generalize hr2 : isq a.toNat = r at *
  refine ⟨_, rfl, a, rfl, by omega, bd_sm (by omega) (by decide), ?_⟩
  rw [hr2]
  refine ⟨_, _, rfl, rfl, 2, _, rfl, ⟨by decide, by decide, by omega, by omega⟩, fun D hD => ?_⟩
  have en : ((r : Int) + 1 - 2).toNat = r - 1 := by omega
  rw [en]
  refine lc_range (lo := 2) (n := r - 1) (fun i H' => Same H H' ∧ H' D = some (.lst (((List.range i).map fun i : Nat => !decide (a.fmod ((2 + (i : Int)) * (2 + (i : Int))) = 0)).map V.bl))) ⟨?_, upd_same⟩ (fun i H' hi ⟨s1, hl⟩ => ?_) fun H' ⟨s1, hl⟩ => ?_
  · intro b o e
    rw [upd_ne (ne_of_none e hD)]
    exact e
  · refine ⟨rfl, ?_⟩
    have sm : Bd 10 (2 + (i : Int)) := bd_sm (by omega) (by decide)
    have nz : (2 + (i : Int)) * (2 + (i : Int)) ≠ 0 := Int.mul_ne_zero (by omega) (by omega)
    refine ⟨_, rfl, _, rfl, _, rfl, _, _, rfl, rfl, sm.mulx sm (by decide), _, _, rfl, rfl, nz, rfl, _, hl, ?_, ?_, ?_⟩
    · rw [List.length_map, List.length_map, List.length_range, sizeLine_eq]; omega
    · exact fun b o e => by
        rw [upd_ne (ne_of_none e hD)]
        exact s1 b o e
    · rw [upd_same, List.range_succ, List.map_append, List.map_append]
      have e : decide (V.int (a.fmod ((2 + (i : Int)) * (2 + (i : Int)))) = V.int 0) = decide (a.fmod ((2 + (i : Int)) * (2 + (i : Int))) = 0) := by
        by_cases z : a.fmod ((2 + (i : Int)) * (2 + (i : Int))) = 0
        · rw [z]; rfl
        · rw [decide_eq_false z, decide_eq_false fun y => z (V.int.inj y)]
      rw [e]; rfl
  · exact ⟨D, _, rfl, .of hl, q H' s1⟩
structure NTxt (K : PySem.W.Frag) (mg : Str → Option Value) (CN CF : Addr) : Prop where
  gN : mg "Number" = some (.ref CN)
  gF : mg "Form" = some (.ref CF)
  cN : SCls K CN
  cF : SCls K CF
  yN : SIsi K CN
  yF : SIsi K CF
  sN_top : ∃ p, Slot1 K CN "own_top" p 3
  sN_part : ∃ p, Slot1 K CN "own_part" p 1
  sN_root : ∃ p, Slot1 K CN "own_root" p 2
  sN_bottom : ∃ p, Slot1 K CN "own_bottom" p 0
  sF_top : ∃ p, Slot1 K CF "own_top" p 3
  sF_part : ∃ p, Slot1 K CF "own_part" p 1
  sF_root : ∃ p, Slot1 K CF "own_root" p 2
  sF_bottom : ∃ p, Slot1 K CF "own_bottom" p 0
  iNN : PySem.W.kitOne K (.ref CN) (.ref CN) = some true
  iFF : PySem.W.kitOne K (.ref CF) (.ref CF) = some true
  iIF : PySem.W.kitOne K (.type "int") (.ref CF) = some false
  iIN : PySem.W.kitOne K (.type "int") (.ref CN) = some false
  iNI : PySem.W.kitOne K (.ref CN) (.type "int") = some false
def sl4 (n : Nm) : List (Option V) := [some (.int n.b), some (.int n.p), some (.int n.r), some (.int n.t)]
def At4 (C : Addr) (H : Hp) (v : V) (n : Nm) : Prop := ∃ a dx, v = .ref a ∧ Slt H a C dx (sl4 n)
theorem At4.same {C : Addr} {H H' : Hp} {v : V} {n : Nm} (h : At4 C H v n) (s : Same H H') : At4 C H' v n := by
  obtain ⟨a, dx, rfl, h⟩ := h
  refine ⟨a, dx, rfl, ?_⟩
  rcases h with ⟨_, h2⟩ | ⟨h1, h2⟩
  · cases h2
  · exact .inr ⟨s _ _ h1, s _ _ h2⟩
def AtN (C : Addr) (H H' : Hp) (v : V) (n : Nm) : Prop := ∃ a dx, v = .ref a ∧ Slt H' a C dx (sl4 n) ∧ H a = none ∧ H dx = none
theorem AtN.at {C : Addr} {H H' : Hp} {v : V} {n : Nm} (h : AtN C H H' v n) : At4 C H' v n := let ⟨a, dx, e, s, _⟩ := h; ⟨a, dx, e, s⟩
theorem AtN.back {C : Addr} {H0 H H' : Hp} {v : V} {n : Nm} (h : AtN C H H' v n) (s : Same H0 H) : AtN C H0 H' v n :=
  have fr : ∀ {q : Addr}, H q = none → H0 q = none := fun {q} n => by
    cases e : H0 q with
    | none => rfl
    | some o => rw [s _ _ e] at n; cases n
  let ⟨a, dx, e, sl, n1, n2⟩ := h; ⟨a, dx, e, sl, fr n1, fr n2⟩
def okRoot (r p : Int) : Prop := (r = 0 ∧ p = 0) ∨ isRootB r = true
def Arg4 (CF : Addr) (H : Hp) (rest : List V) (n : Nm) : Prop := (∃ v, rest = [v, .int 0, .int 0, .int 1] ∧ At4 CF H v n) ∨ ∃ t p r b, rest = [.int t, .int p, .int r, .int b] ∧ b ≠ 0 ∧ okRoot r p ∧ Bd 9000 b ∧ n = mkNm t p r b
def spFormI (CF : Addr) : Sp := fun vs H Q _ => ∃ (a dx : Addr) (t p r b : Int), vs = [.ref a, .int t, .int p, .int r, .int b] ∧ dx ≠ a ∧ Slt H a CF dx [] ∧ b ≠ 0 ∧ Bd 9000 b ∧ Q .non (slH H a CF dx (sl4 (mkNm t p r b)))
def spFormIn (CF : Addr) : Sp := fun vs H Q _ => ∃ n, Arg4 CF H vs n ∧ ∀ v H', Same H H' → At4 CF H' v n → Q v H'
def spNumI (CN CF : Addr) : Sp := fun vs H Q _ => ∃ (a dx : Addr) (rest : List V) (n : Nm), vs = .ref a :: rest ∧ dx ≠ a ∧ (H a = some (.ins CN dx []) ∧ H dx = some (.own a)) ∧ Arg4 CF H rest n ∧ ∀ H1, Same H H1 → Q .non (slH H1 a CN dx (sl4 n))
section
variable {P : Program} {w : World} {K : PySem.W.Frag} {mg : Str → Option Value} {base : Heap} {f CN CF : Addr} {fd : FuncData}
theorem sc_Form___init__ : FnScope ["self", "top", "part", "root", "bottom", "common", "share"] ["self", "top", "part", "root", "bottom"] (defScope (inClass (topS 16) 1)) := ⟨rfl, rfl, rfl, by decide +kernel, rfl, by decide +kernel, by decide +kernel⟩
theorem ok_form_init (F : Fun K "__init__" "Form.__init__" (inClass (topS 16) 1) f fd) (fr : Free mg) (T : NTxt K mg CN CF) (G_greatest_divisor : GD P w K mg base "greatest_divisor" 2 spGcd) : FnOk P w K mg base CX0 3 f fd ["self", "top", "part", "root", "bottom"] (spFormI CF) := by
  refine F.ok sc_Form___init__ (fun vs H Q E ⟨_, _, _, _, _, _, e, _⟩ => by rw [e]; rfl) (fun cdv A outer s H vs Q E hr h => ⟨_, (pss_cons (ps_set (i := 5) sc_Form___init__.nd rfl (by first | exact Or.inl rfl | exact Or.inr rfl) (pe_c1 G_greatest_divisor (hr.mono (by decide)) (pa_cons (pe_c1 G_greatest_divisor (hr.mono (by decide)) (pa_cons (pe_callB call_abs (by rfl) fr.b_abs (by decide +kernel) (pa_cons (pv 1) pa_nil)) (pa_cons (pe_callB call_abs (by rfl) fr.b_abs (by decide +kernel) (pa_cons (pv 2) pa_nil)) pa_nil))) (pa_cons (pe_callB call_abs (by rfl) fr.b_abs (by decide +kernel) (pa_cons (pv 4) pa_nil)) pa_nil))))
  (pss_cons (ps_set (i := 6) sc_Form___init__.nd rfl (by first | exact Or.inl rfl | exact Or.inr rfl) (pe_ifExp (pt_cmpR op_gt (pv 4) pe_int (nomark _)) (pv 5) (pe_un un_neg (pv 5))))
  (pss_cons (ps_slC T.cF T.sF_top (pv 0) (pe_op op_fdivZ (pv 1) (pv 6)))
  (pss_cons (ps_slC T.cF T.sF_part (pv 0) (pe_op op_fdivZ (pv 2) (pv 6)))
  (pss_cons (ps_slC T.cF T.sF_root (pv 0) (pe_ifExp (pt_cmpR op_eq (pv 2) pe_int (nomark _)) pe_int (pv 3)))
  (pss_one (ps_slC T.cF T.sF_bottom (pv 0) (pe_op op_fdivZ (pv 4) (pv 6))))))))), ?_⟩)
  obtain ⟨a, dx, t, p, r, b, rfl, ne, hs, b0, hb, q⟩ := h
  have key : ∀ sh rr : Int, sh = share t p b → rr = (if p = 0 then 0 else r) → Q .non (slH (slH (slH (slH H a CF dx (putS 3 (.int (t.fdiv sh)) [])) a CF dx (putS 1 (.int (p.fdiv sh)) (putS 3 (.int (t.fdiv sh)) []))) a CF dx
      (putS 2 (.int rr) (putS 1 (.int (p.fdiv sh)) (putS 3 (.int (t.fdiv sh)) [])))) a CF dx (putS 0 (.int (b.fdiv sh)) (putS 2 (.int rr) (putS 1 (.int (p.fdiv sh)) (putS 3 (.int (t.fdiv sh)) []))))) := fun sh rr e1 e2 => by
    rw [slH_twice ne, slH_twice ne, slH_twice ne, e1, e2]; exact q
  have ab : ∀ x : Int, (if x < 0 then -x else x).toNat = x.natAbs := fun x => by split <;> omega
  have nn : ∀ x : Int, 0 ≤ (if x < 0 then -x else x) := fun x => by split <;> omega
  refine ⟨_, rfl, _, rfl, _, rfl, _, rfl, _, _, rfl, nn t, nn p, _, rfl, _, rfl, _, _, rfl, Int.natCast_nonneg _, nn b, ?_⟩
  rw [ab, ab, ab, Int.toNat_natCast]
  have dv : ∀ x sh : Int, sh = share t p b → CDvz x sh := fun x sh e => by rw [e]; exact (share_bd b0 hb).dvz (share_ne b0) (Nat.le_refl _)
  have l1 := fun vs => slH_slt (H := H) (C := CF) (vs := vs) ne
  refine ⟨_, rfl, _, _, rfl, rfl, _, rfl, ite_dec (fun c => ?_) fun c => ?_⟩
  · have e : ((Nat.gcd (Nat.gcd t.natAbs p.natAbs) b.natAbs : Nat) : Int) = share t p b := (if_pos c).symm
    refine ⟨_, rfl, _, rfl, _, rfl, _, _, rfl, rfl, dv _ _ e, _, rfl, a, dx, _, rfl, hs, _, rfl, _, rfl, _, _, rfl, rfl, dv _ _ e, _, rfl, a, dx, _, rfl, slH_slt ne, _, rfl, rfl, _, rfl, ite_dec (fun c2 => ?_) fun c2 => ?_⟩
    · exact ⟨_, rfl, a, dx, _, rfl, slH_slt ne, _, rfl, _, rfl, _, _, rfl, rfl, dv _ _ e, _, rfl, a, dx, _, rfl, slH_slt ne, key _ _ e (if_pos (V.int.inj c2)).symm⟩
    · exact ⟨_, rfl, _, rfl, a, dx, _, rfl, slH_slt ne, _, rfl, _, rfl, _, _, rfl, rfl, dv _ _ e, _, rfl, a, dx, _, rfl, slH_slt ne, key _ _ e (if_neg fun z => c2 (congrArg V.int z)).symm⟩
  · have e : -((Nat.gcd (Nat.gcd t.natAbs p.natAbs) b.natAbs : Nat) : Int) = share t p b := (if_neg c).symm
    refine ⟨_, rfl, _, rfl, _, rfl, _, rfl, _, _, rfl, rfl, dv _ _ e, _, rfl, a, dx, _, rfl, hs, _, rfl, _, rfl, _, _, rfl, rfl, dv _ _ e, _, rfl, a, dx, _, rfl, slH_slt ne, _, rfl, rfl, _, rfl, ite_dec (fun c2 => ?_) fun c2 => ?_⟩
    · exact ⟨_, rfl, a, dx, _, rfl, slH_slt ne, _, rfl, _, rfl, _, _, rfl, rfl, dv _ _ e, _, rfl, a, dx, _, rfl, slH_slt ne, key _ _ e (if_pos (V.int.inj c2)).symm⟩
    · exact ⟨_, rfl, _, rfl, a, dx, _, rfl, slH_slt ne, _, rfl, _, rfl, _, _, rfl, rfl, dv _ _ e, _, rfl, a, dx, _, rfl, slH_slt ne, key _ _ e (if_neg fun z => c2 (congrArg V.int z)).symm⟩
theorem same_made {H : Hp} {x dx C : Addr} {vs : List (Option V)} (nx : H x = none) (nd : H dx = none) : Same H (slH (upd (upd H dx (.own x)) x (.ins C dx [])) x C dx vs) := fun b o e => by
  have h1 : b ≠ x := ne_of_none e nx
  have h2 : b ≠ dx := ne_of_none e nd
  rw [slH_ne h1 h2, upd_ne h1, upd_ne h2]; exact e
theorem same_new {H : Hp} {x dx C : Addr} (nx : H x = none) (nd : H dx = none) : Same H (upd (upd H dx (.own x)) x (.ins C dx [])) := fun b o e => by
  rw [upd_ne (ne_of_none e nx), upd_ne (ne_of_none e nd)]; exact e
theorem form_made {H : Hp} {Q : VK} {t p r b : Int} (b0 : b ≠ 0) (hb : Bd 9000 b) (q : ∀ v H', Same H H' → At4 CF H' v (mkNm t p r b) → Q v H') :
    ∀ x dx, H x = none → H dx = none → dx ≠ x → spFormI CF (.ref x :: [.int t, .int p, .int r, .int b]) (upd (upd H dx (.own x)) x (.ins CF dx [])) (fun v H2 => v = .non ∧ Q (.ref x) H2) E0 := fun x dx nx nd ne =>
  ⟨x, dx, t, p, r, b, rfl, ne, .inl ⟨upd_same, rfl⟩, b0, hb, rfl, q _ _ (same_made nx nd) ⟨x, dx, rfl, slH_slt ne⟩⟩
theorem Arg4.same {H H' : Hp} {vs : List V} {n : Nm} (h : Arg4 CF H vs n) (s : Same H H') : Arg4 CF H' vs n := h.imp (fun ⟨v, e, h⟩ => ⟨v, e, h.same s⟩) id
theorem slH_same {H H1 : Hp} {x dx C C' : Addr} {vs : List (Option V)} (nx : H x = none) (nd : H dx = none) (s : Same (upd (upd H dx (.own x)) x (.ins C dx [])) H1) : Same H (slH H1 x C' dx vs) := fun b o e => by
  have h1 : b ≠ x := ne_of_none e nx
  have h2 : b ≠ dx := ne_of_none e nd
  rw [slH_ne h1 h2]
  exact s _ _ (by rw [upd_ne h1, upd_ne h2]; exact e)
theorem num_made {H : Hp} {Q : VK} {vs : List V} {n : Nm} (h : Arg4 CF H vs n) (q : ∀ v H', Same H H' → AtN CN H H' v n → Q v H') :
    ∀ x dx, H x = none → H dx = none → dx ≠ x → spNumI CN CF (.ref x :: vs) (upd (upd H dx (.own x)) x (.ins CN dx [])) (fun v H2 => v = .non ∧ Q (.ref x) H2) E0 := fun x dx nx nd ne =>
  ⟨x, dx, vs, n, rfl, ne, ⟨upd_same, by rw [upd_ne ne, upd_same]⟩, h.same (same_new nx nd), fun H1 s => ⟨rfl, q _ _ (slH_same nx nd s) ⟨x, dx, rfl, slH_slt ne, nx, nd⟩⟩⟩
theorem At4.ty {H : Hp} {v : V} {n : Nm} {C : Addr} (h : At4 C H v n) (c : SCls K C) (i : SIsi K C) : TyY K H v (.ref C) := by
  obtain ⟨a, dx, rfl, h⟩ := h
  exact .slt h c i
theorem ty_int (H : Hp) (i : Int) : TyY K H (.int i) (.type "int") := .x (.base (.int i))
theorem kit_ii : PySem.W.kitOne K (.type "int") (.type "int") = some true := kit_ty (by decide +kernel)
theorem sc_form_in : FnScope ["top", "part", "root", "bottom"] ["top", "part", "root", "bottom"] (defScope (topS 17)) := ⟨rfl, rfl, rfl, by decide +kernel, rfl, by decide +kernel, by decide +kernel⟩
theorem ok_form_in (F : Fun K "form_in" "form_in" (topS 17) f fd) (fr : Free mg) (T : NTxt K mg CN CF) (G_is_whole : GD P w K mg base "is_whole" 2 (spIsWhole K)) (G_is_root : GD P w K mg base "is_root" 3 spIsRoot)
    (G_Form : GM P w K mg base "Form" CF 3 [] (spFormI CF)) : FnOk P w K mg base CX0 5 f fd ["top", "part", "root", "bottom"] (spFormIn CF) := by
  refine F.ok sc_form_in (fun vs H Q E ⟨_, e, _⟩ => by rcases e with ⟨_, e, _⟩ | ⟨_, _, _, _, e, _⟩ <;> (rw [e]; rfl)) (fun cdv A outer s H vs Q E hr h => ⟨_, (pss_cons (ps_if (pt_val (pe_callB call_isiU (by rfl) fr.b_isinstance (by decide +kernel) (pa_cons (pv 0) (pa_cons (pe_glob (v := .ref CF) rfl T.gF rfl) pa_nil)))) (pss_one (ps_ret (pv 0))) pss_nil)
  (pss_cons (ps_if (PW.pt (pw_or (pt_not (pt_val (pe_c1 G_is_whole (hr.mono (by decide)) (pa_cons (pv 0) pa_nil)))) (pw_or (pt_not (pt_val (pe_c1 G_is_whole (hr.mono (by decide)) (pa_cons (pv 1) pa_nil)))) (pw_or (pt_not (pt_val (pe_c1 G_is_whole (hr.mono (by decide)) (pa_cons (pv 3) pa_nil)))) (pw_or1 (pt_cmpR op_eq (pv 3) pe_int (nomark _))))))) (pss_one ps_never) pss_nil)
  (pss_cons (ps_if (PW.pt (pw_or (pt_not (pt_val (pe_c1 G_is_whole (hr.mono (by decide)) (pa_cons (pv 2) pa_nil)))) (pw_or (PW.pt (pw_and (pt_cmpR op_ne (pv 2) pe_int (nomark _)) (pw_and1 (pt_not (pt_val (pe_c1 G_is_root (hr.mono (by decide)) (pa_cons (pv 2) pa_nil))))))) (pw_or1 (PW.pt (pw_and (pt_cmpR op_eq (pv 2) pe_int (nomark _)) (pw_and1 (pt_cmpR op_ne (pv 1) pe_int (nomark _))))))))) (pss_one ps_never) pss_nil)
  (pss_one (ps_ret (pe_m1 G_Form (hr.mono (by decide)) (pa_cons (pv 0) (pa_cons (pv 1) (pa_cons (pv 2) (pa_cons (pv 3) pa_nil)))))))))), ?_⟩)
  obtain ⟨n, h, q⟩ := h
  rcases h with ⟨v, rfl, h⟩ | ⟨t, p, r, b, rfl, b0, hrt, hb, rfl⟩
  · exact ⟨v, rfl, v, .ref CF, _, _, true, rfl, .own CF, h.ty T.cF T.yF, T.iFF, true, rfl, v, rfl, q v H (Same.refl H) h⟩
  have ex : ∀ i : Int, (true = true → ∃ j, V.int i = V.int j) := fun i _ => ⟨i, rfl⟩
  refine ⟨_, rfl, _, .ref CF, _, _, false, rfl, .own CF, ty_int H t, T.iIF, false, rfl, _, rfl, _, _, true, rfl, ty_int H t, kit_ii, ex t, true, rfl, _, rfl, _, _, true, rfl, ty_int H p, kit_ii, ex p, true, rfl, _, rfl, _, _, true, rfl, ty_int H b, kit_ii, ex b, true, rfl,
    _, rfl, rfl, _, rfl, ite_dec (fun c => absurd (V.int.inj c) b0) fun _ => ?_⟩
  refine ⟨_, rfl, _, _, true, rfl, ty_int H r, kit_ii, ex r, true, rfl, _, rfl, rfl, _, rfl, ?_⟩
  have fin : ∀ H1, Same H H1 → ∀ x dx, H1 x = none → H1 dx = none → dx ≠ x → spFormI CF (.ref x :: [.int t, .int p, .int r, .int b]) (upd (upd H1 dx (.own x)) x (.ins CF dx [])) (fun v H2 => v = .non ∧ Q (.ref x) H2) E0 :=
    fun H1 s1 => form_made b0 hb fun v H' s ha => q v H' (s1.trans s) ha
  rcases hrt with ⟨rfl, rfl⟩ | hrt
  · exact ⟨_, rfl, rfl, _, rfl, _, rfl, rfl, _, rfl, _, rfl, _, rfl, _, rfl, _, rfl, fin H (Same.refl H)⟩
  · have r0 : r ≠ 0 := fun e => by rw [e] at hrt; revert hrt; decide
    refine ite_ndec (fun c => ?_) fun c => absurd (V.int.inj c) r0
    refine ⟨_, rfl, r, rfl, fun H1 s1 => ⟨isRootB r, rfl, ?_⟩⟩
    rw [hrt]
    exact ⟨_, rfl, rfl, _, rfl, ite_dec (fun c => absurd (V.int.inj c) r0) fun _ => ⟨_, rfl, _, rfl, _, rfl, _, rfl, fin H1 s1⟩⟩
theorem sc_Number___init__ : FnScope ["self", "top", "part", "root", "bottom", "form"] ["self", "top", "part", "root", "bottom"] (defScope (inClass (topS 18) 1)) := ⟨rfl, rfl, rfl, by decide +kernel, rfl, by decide +kernel, by decide +kernel⟩
theorem ok_num_init {dvs : List V} {kws : List (Str × V)} (F : FunD K "__init__" "Number.__init__" (defArgs (inClass (topS 18) 1)) (defBody (inClass (topS 18) 1)) (defScope (inClass (topS 18) 1)) dvs kws f fd) (T : NTxt K mg CN CF) (G_form_in : GD P w K mg base "form_in" 5 (spFormIn CF)) :
    FnOk P w K mg base CX0 6 f fd ["self", "top", "part", "root", "bottom"] (spNumI CN CF) := by
  refine F.ok sc_Number___init__ (fun vs H Q E ⟨_, _, rest, n, e, _, _, h, _⟩ => by rw [e]; rcases h with ⟨_, e, _⟩ | ⟨_, _, _, _, e, _⟩ <;> (rw [e]; rfl)) (fun cdv A outer s H vs Q E hr h => ⟨_, ((pss_cons (ps_set (i := 5) sc_Number___init__.nd rfl (by first | exact Or.inl rfl | exact Or.inr rfl) (pe_c1 G_form_in (hr.mono (by decide)) (pa_cons (pv 1) (pa_cons (pv 2) (pa_cons (pv 3) (pa_cons (pv 4) pa_nil))))))
  (pss_cons (ps_slC T.cN T.sN_top (pv 0) (pe_slC T.cF T.sF_top (pv 5)))
  (pss_cons (ps_slC T.cN T.sN_part (pv 0) (pe_slC T.cF T.sF_part (pv 5)))
  (pss_cons (ps_slC T.cN T.sN_root (pv 0) (pe_slC T.cF T.sF_root (pv 5)))
  (pss_one (ps_slC T.cN T.sN_bottom (pv 0) (pe_slC T.cF T.sF_bottom (pv 5)))))))) : PSs (cxOf CX0 P w K mg base ["self", "top", "part", "root", "bottom", "form"] _ _ f cdv A outer s H E).nox _ _).nox, ?_⟩)
  obtain ⟨a, dx, rest, n, rfl, ne, hs, ha, q⟩ := h
  have main : ∀ (σ : L2.St) v H1, Same H H1 → At4 CF H1 v n → σ[0]? = some (some (.ref a)) → σ[5]? = some (some v) →
      tSeq (sSlC CN 3 (tVar 0) (tSlC CF 3 (tVar 5))) (tSeq (sSlC CN 1 (tVar 0) (tSlC CF 1 (tVar 5))) (tSeq (sSlC CN 2 (tVar 0) (tSlC CF 2 (tVar 5))) (sSlC CN 0 (tVar 0) (tSlC CF 0 (tVar 5))))) { nx := fun _ H' => Q .non H', rt := Q } σ H1 := by
    intro σ v H1 s1 h e0 e5
    obtain ⟨b, dy, rfl, hb⟩ := h
    have ka := s1 _ _ hs.1
    have kd := s1 _ _ hs.2
    have hs1 : Slt H1 a CN dx [] := .inl ⟨ka, rfl⟩
    obtain ⟨b1, b2⟩ : H1 b = some (SlO b CF dy (sl4 n)) ∧ H1 dy = some (.xd []) := by
      rcases hb with ⟨_, h2⟩ | h
      · cases h2
      · exact h
    have n1 : b ≠ a := fun z => by rw [z, ka] at b1; unfold SlO at b1; cases b1
    have n2 : b ≠ dx := fun z => by rw [z, kd] at b1; unfold SlO at b1; cases b1
    have n3 : dy ≠ a := fun z => by rw [z, ka] at b2; cases b2
    have n4 : dy ≠ dx := fun z => by rw [z, kd] at b2; cases b2
    have kp : ∀ vs, Slt (slH H1 a CN dx vs) b CF dy (sl4 n) := fun vs => .inr ⟨by rw [slH_ne n1 n2]; exact b1, by rw [slH_ne n3 n4]; exact b2⟩
    have q := q H1 s1
    refine ⟨_, e5, b, dy, _, _, rfl, hb, rfl, _, e0, a, dx, _, rfl, hs1, _, e5, b, dy, _, _, rfl, kp _, rfl, _, e0, a, dx, _, rfl, slH_slt ne, ?_⟩
    rw [slH_twice ne]
    refine ⟨_, e5, b, dy, _, _, rfl, kp _, rfl, _, e0, a, dx, _, rfl, slH_slt ne, ?_⟩
    rw [slH_twice ne]
    refine ⟨_, e5, b, dy, _, _, rfl, kp _, rfl, _, e0, a, dx, _, rfl, slH_slt ne, ?_⟩
    rw [slH_twice ne]
    exact q
  have pre : ∀ v H1, Same H H1 → At4 CF H1 v n → _ := fun v H1 s1 h => main ((start ["self", "top", "part", "root", "bottom", "form"] (.ref a :: rest)).set 5 (some v)) v H1 s1 h
  rcases id ha with ⟨v, rfl, h⟩ | ⟨t, p, r, b, rfl, b0, hrt, hb, rfl⟩
  · exact ⟨_, rfl, _, rfl, _, rfl, _, rfl, n, ha, fun v H' s1 h1 => pre v H' s1 h1 rfl rfl⟩
  · exact ⟨_, rfl, _, rfl, _, rfl, _, rfl, _, ha, fun v H' s1 h1 => pre v H' s1 h1 rfl rfl⟩
end
end
def NI (CN : Addr) (H : Hp) (y : V) (n : Nm) : Prop := At4 CN H y n ∨ ∃ i, y = .int i ∧ n = mkNm i 0 0 1
def spLike (CN : Addr) : Sp := fun vs H Q _ => ∃ x n, vs = [x] ∧ NI CN H x n ∧ Q (.bl true) H
def spNumOf (CN : Addr) : Sp := fun vs H Q _ => ∃ x n, vs = [x] ∧ NI CN H x n ∧ ∀ v H', Same H H' → At4 CN H' v n → (v = x ∨ AtN CN H H' v n) → Q v H'
def spCommon (CN : Addr) : Sp := fun vs H Q _ => ∃ x y a b, vs = [x, y] ∧ At4 CN H x a ∧ At4 CN H y b ∧ Cm a b ∧ Q (.int (cRoot a b)) H
def spBin (CN : Addr) (g : Nm → Nm → Nm) (C : Nm → Nm → Prop) : Sp := fun vs H Q _ => ∃ x y a b, vs = [x, y] ∧ At4 CN H x a ∧ NI CN H y b ∧ Cm a b ∧ Gd 1000 a ∧ Gd 1000 b ∧ C a b ∧ ∀ v H', Same H H' → AtN CN H H' v (g a b) → Q v H'
def spInt0 (CN : Addr) (g : Nm → Int) : Sp := fun vs H Q _ => ∃ x a, vs = [x] ∧ At4 CN H x a ∧ Q (.int (g a)) H
def spEq (K : PySem.W.Frag) (CN : Addr) : Sp := fun vs H Q _ => ∃ x y a, vs = [x, y] ∧ At4 CN H x a ∧ ((∃ b, At4 CN H y b ∧ Q (.bl (decide (a = b))) H) ∨ ∃ t, TyY K H y t ∧ PySem.W.kitOne K t (.ref CN) = some false ∧ Q (.bl false) H)
section
variable {P : Program} {w : World} {K : PySem.W.Frag} {mg : Str → Option Value} {base : Heap} {f CN CF : Addr} {fd : FuncData}
theorem sc_is_like_number : FnScope ["value"] ["value"] (defScope (topS 19)) := ⟨rfl, rfl, rfl, by decide +kernel, rfl, by decide +kernel, by decide +kernel⟩
theorem ok_is_like (F : Fun K "is_like_number" "is_like_number" (topS 19) f fd) (fr : Free mg) (T : NTxt K mg CN CF) (G_is_whole : GD P w K mg base "is_whole" 2 (spIsWhole K)) : FnOk P w K mg base CX0 3 f fd ["value"] (spLike CN) := by
  refine F.ok sc_is_like_number (fun vs H Q E ⟨_, _, e, _⟩ => by rw [e]; rfl) (fun cdv A outer s H vs Q E hr h => ⟨_, (pss_one (ps_ret (pe_or (pe_callB call_isiU (by rfl) fr.b_isinstance (by decide +kernel) (pa_cons (pv 0) (pa_cons (pe_glob (v := .ref CN) rfl T.gN rfl) pa_nil))) (pe_one (pe_c1 G_is_whole (hr.mono (by decide)) (pa_cons (pv 0) pa_nil)))))), ?_⟩)
  obtain ⟨x, n, rfl, h | ⟨i, rfl, _⟩, q⟩ := h
  · exact ⟨_, rfl, _, .ref CN, _, _, true, rfl, .own CN, h.ty T.cN T.yN, T.iNN, true, rfl, q⟩
  · exact ⟨_, rfl, _, .ref CN, _, _, false, rfl, .own CN, ty_int H i, T.iIN, false, rfl, _, rfl, _, _, true, rfl, ty_int H i, kit_ii, fun _ => ⟨i, rfl⟩, q⟩
theorem sc_number_of : FnScope ["value"] ["value"] (defScope (topS 20)) := ⟨rfl, rfl, rfl, by decide +kernel, rfl, by decide +kernel, by decide +kernel⟩
theorem ok_number_of (F : Fun K "number_of" "number_of" (topS 20) f fd) (fr : Free mg) (T : NTxt K mg CN CF) (G_Form : GM P w K mg base "Form" CF 3 [] (spFormI CF)) (G_Number : GM P w K mg base "Number" CN 6 [.int 0, .int 0, .int 1] (spNumI CN CF)) : FnOk P w K mg base CX0 8 f fd ["value"] (spNumOf CN) := by
  refine F.ok sc_number_of (fun vs H Q E ⟨_, _, e, _⟩ => by rw [e]; rfl) (fun cdv A outer s H vs Q E hr h => ⟨_, (pss_one (ps_ret (pe_ifExp (pt_val (pe_callB call_isiU (by rfl) fr.b_isinstance (by decide +kernel) (pa_cons (pv 0) (pa_cons (pe_glob (v := .ref CN) rfl T.gN rfl) pa_nil)))) (pv 0) (pe_m1 G_Number (hr.mono (by decide)) (pa_cons (pe_m1 G_Form (hr.mono (by decide)) (pa_cons (pv 0) (pa_cons pe_int (pa_cons pe_int (pa_cons pe_int pa_nil))))) pa_nil))))), ?_⟩)
  obtain ⟨x, n, rfl, h | ⟨i, rfl, rfl⟩, q⟩ := h
  · exact ⟨_, rfl, _, .ref CN, _, _, true, rfl, .own CN, h.ty T.cN T.yN, T.iNN, true, rfl, _, rfl, q _ _ (Same.refl H) h (.inl rfl)⟩
  · exact ⟨_, rfl, _, .ref CN, _, _, false, rfl, .own CN, ty_int H i, T.iIN, false, rfl, _, rfl, form_made (by decide) (bd_sm (by decide) (by decide)) fun v H1 s1 hf => num_made (.inl ⟨v, rfl, hf⟩) fun u H2 s2 hn => q u H2 (s1.trans s2) hn.at (.inr (hn.back s1))⟩
theorem sc_common_root : FnScope ["one", "other"] ["one", "other"] (defScope (topS 21)) := ⟨rfl, rfl, rfl, by decide +kernel, rfl, by decide +kernel, by decide +kernel⟩
theorem ok_common_root (F : Fun K "common_root" "common_root" (topS 21) f fd) (T : NTxt K mg CN CF) : FnOk P w K mg base CX0 2 f fd ["one", "other"] (spCommon CN) := by
  refine F.ok sc_common_root (fun vs H Q E ⟨_, _, _, _, e, _⟩ => by rw [e]; rfl) (fun cdv A outer s H vs Q E hr h => ⟨_, (pss_cons (ps_if (PW.pt (pw_and (pt_cmpR op_ne (pe_slC T.cN T.sN_root (pv 0)) pe_int (nomark _)) (pw_and (pt_cmpR op_ne (pe_slC T.cN T.sN_root (pv 1)) pe_int (nomark _)) (pw_and1 (pt_cmpR op_ne (pe_slC T.cN T.sN_root (pv 0)) (pe_slC T.cN T.sN_root (pv 1)) (nomark _)))))) (pss_one ps_never) pss_nil)
  (pss_one (ps_ret (pe_ifExp (pt_cmpR op_ne (pe_slC T.cN T.sN_root (pv 0)) pe_int (nomark _)) (pe_slC T.cN T.sN_root (pv 0)) (pe_slC T.cN T.sN_root (pv 1)))))), ?_⟩)
  obtain ⟨x, y, a, b, rfl, ⟨x, dx, rfl, hx⟩, ⟨y, dy, rfl, hy⟩, cm, q⟩ := h
  unfold cRoot at q
  have fin : (a.r = 0 ∨ b.r = 0 ∨ a.r = b.r) → tRet (tIf (tTest (tOp rNe (tSlC CN 2 (tVar 0)) (tC (.int 0)))) (tSlC CN 2 (tVar 0)) (tSlC CN 2 (tVar 1))) { nx := fun _ H' => Q .non H', rt := Q } (start ["one", "other"] [.ref x, .ref y]) H := fun _ => by
    refine ⟨_, rfl, x, dx, _, _, rfl, hx, rfl, rfl, _, rfl, ite_ndec (fun c => ?_) fun c => ?_⟩
    · rw [if_neg fun e => c (congrArg V.int e)] at q
      exact ⟨_, rfl, x, dx, _, _, rfl, hx, rfl, q⟩
    · rw [if_pos (V.int.inj c)] at q
      exact ⟨_, rfl, y, dy, _, _, rfl, hy, rfl, q⟩
  refine ⟨_, rfl, x, dx, _, _, rfl, hx, rfl, rfl, _, rfl, ite_ndec (fun c => ?_) fun c => fin cm⟩
  refine ⟨_, rfl, y, dy, _, _, rfl, hy, rfl, rfl, _, rfl, ite_ndec (fun c2 => ?_) fun c2 => fin cm⟩
  refine ⟨_, rfl, x, dx, _, _, rfl, hx, rfl, _, rfl, y, dy, _, _, rfl, hy, rfl, rfl, _, rfl, ?_⟩
  have e : a.r = b.r := by
    rcases cm with e | e | e
    · exact absurd (congrArg V.int e) c
    · exact absurd (congrArg V.int e) c2
    · exact e
  rw [e, decide_eq_true rfl]
  exact fin cm
theorem sc_Number___add__ : FnScope ["self", "other", "more", "root", "top", "part"] ["self", "other"] (defScope (inClass (topS 18) 13)) := ⟨rfl, rfl, rfl, by decide +kernel, rfl, by decide +kernel, by decide +kernel⟩
theorem ok_add (F : Fun K "__add__" "Number.__add__" (inClass (topS 18) 13) f fd) (fr : Free mg) (T : NTxt K mg CN CF) (G_is_like_number : GD P w K mg base "is_like_number" 3 (spLike CN)) (G_number_of : GD P w K mg base "number_of" 8 (spNumOf CN))
    (G_common_root : GD P w K mg base "common_root" 2 (spCommon CN)) (G_Form : GM P w K mg base "Form" CF 3 [] (spFormI CF)) (G_Number : GM P w K mg base "Number" CN 6 [.int 0, .int 0, .int 1] (spNumI CN CF)) :
    FnOk P w K mg base CX0 9 f fd ["self", "other"] (spBin CN addN fun _ _ => True) := by
  refine F.ok sc_Number___add__ (fun vs H Q E ⟨_, _, _, _, e, _⟩ => by rw [e]; rfl) (fun cdv A outer s H vs Q E hr h => ⟨_, (pss_cons (ps_if (pt_not (pt_val (pe_c1 G_is_like_number (hr.mono (by decide)) (pa_cons (pv 1) pa_nil)))) (pss_one ps_never) pss_nil)
  (pss_cons (ps_set (i := 2) sc_Number___add__.nd rfl (by first | exact Or.inl rfl | exact Or.inr rfl) (pe_c1 G_number_of (hr.mono (by decide)) (pa_cons (pv 1) pa_nil)))
  (pss_cons (ps_set (i := 3) sc_Number___add__.nd rfl (by first | exact Or.inl rfl | exact Or.inr rfl) (pe_c1 G_common_root (hr.mono (by decide)) (pa_cons (pv 0) (pa_cons (pv 2) pa_nil))))
  (pss_cons (ps_set (i := 4) sc_Number___add__.nd rfl (by first | exact Or.inl rfl | exact Or.inr rfl) (pe_op op_add (pe_op op_mulX (pe_slC T.cN T.sN_top (pv 0)) (pe_slC T.cN T.sN_bottom (pv 2))) (pe_op op_mulX (pe_slC T.cN T.sN_top (pv 2)) (pe_slC T.cN T.sN_bottom (pv 0)))))
  (pss_cons (ps_set (i := 5) sc_Number___add__.nd rfl (by first | exact Or.inl rfl | exact Or.inr rfl) (pe_op op_add (pe_op op_mulX (pe_slC T.cN T.sN_part (pv 0)) (pe_slC T.cN T.sN_bottom (pv 2))) (pe_op op_mulX (pe_slC T.cN T.sN_part (pv 2)) (pe_slC T.cN T.sN_bottom (pv 0)))))
  (pss_one (ps_ret (pe_m1 G_Number (hr.mono (by decide)) (pa_cons (pe_m1 G_Form (hr.mono (by decide)) (pa_cons (pv 4) (pa_cons (pv 5) (pa_cons (pv 3) (pa_cons (pe_op op_mulX (pe_slC T.cN T.sN_bottom (pv 0)) (pe_slC T.cN T.sN_bottom (pv 2))) pa_nil))))) pa_nil))))))))), ?_⟩)
  obtain ⟨x, y, a, b, rfl, ⟨a_self, d_self, rfl, h_self⟩, hy, cm, g_self, g_more, _, q⟩ := h
  refine ⟨_, rfl, y, b, rfl, hy, true, rfl, _, rfl, y, b, rfl, hy, fun v H1 s1 hv _ => ?_⟩
  have hx1 : At4 CN H1 (.ref a_self) a := At4.same ⟨a_self, d_self, rfl, h_self⟩ s1
  have cr := cRoot_bd g_self g_more
  obtain ⟨a_more, d_more, rfl, h_more⟩ := id hv
  refine ⟨_, rfl, _, rfl, .ref a_self, _, a, b, rfl, hx1, hv, cm, ?_⟩
  obtain ⟨_, d_self, e, h_self⟩ := hx1
  cases e
  have bb : a.b * b.b ≠ 0 := Int.mul_ne_zero g_self.b0 g_more.b0
  exact ⟨_, rfl, a_self, d_self, _, _, rfl, h_self, rfl, _, rfl, a_more, d_more, _, _, rfl, h_more, rfl, _, _, rfl, rfl, Bd.mulx g_self.t g_more.b (by decide), _, rfl, a_more, d_more, _, _, rfl, h_more, rfl, _, rfl, a_self, d_self, _, _, rfl, h_self, rfl, _, _, rfl, rfl, Bd.mulx g_more.t g_self.b (by decide), _, _, rfl, rfl, _, rfl, a_self, d_self, _, _, rfl, h_self, rfl, _, rfl, a_more, d_more, _, _, rfl, h_more, rfl, _, _, rfl, rfl, Bd.mulx g_self.p g_more.b (by decide), _, rfl, a_more, d_more, _, _, rfl, h_more, rfl, _, rfl, a_self, d_self, _, _, rfl, h_self, rfl, _, _, rfl, rfl, Bd.mulx g_more.p g_self.b (by decide), _, _, rfl, rfl, _, rfl, _, rfl, _, rfl, _, rfl, a_self, d_self, _, _, rfl, h_self, rfl, _, rfl, a_more, d_more, _, _, rfl, h_more, rfl, _, _, rfl, rfl, Bd.mulx g_self.b g_more.b (by decide),
    form_made bb (Bd.mono (Bd.mul g_self.b g_more.b) (by decide)) fun v H2 s2 hf => num_made (.inl ⟨v, rfl, hf⟩) fun u H3 s3 hn => q u H3 ((s1.trans s2).trans s3) (hn.back (s1.trans s2))⟩
theorem sc_Number___sub__ : FnScope ["self", "other", "less", "root", "top", "part"] ["self", "other"] (defScope (inClass (topS 18) 14)) := ⟨rfl, rfl, rfl, by decide +kernel, rfl, by decide +kernel, by decide +kernel⟩
theorem ok_sub (F : Fun K "__sub__" "Number.__sub__" (inClass (topS 18) 14) f fd) (fr : Free mg) (T : NTxt K mg CN CF) (G_is_like_number : GD P w K mg base "is_like_number" 3 (spLike CN)) (G_number_of : GD P w K mg base "number_of" 8 (spNumOf CN))
    (G_common_root : GD P w K mg base "common_root" 2 (spCommon CN)) (G_Form : GM P w K mg base "Form" CF 3 [] (spFormI CF)) (G_Number : GM P w K mg base "Number" CN 6 [.int 0, .int 0, .int 1] (spNumI CN CF)) :
    FnOk P w K mg base CX0 9 f fd ["self", "other"] (spBin CN subN fun _ _ => True) := by
  refine F.ok sc_Number___sub__ (fun vs H Q E ⟨_, _, _, _, e, _⟩ => by rw [e]; rfl) (fun cdv A outer s H vs Q E hr h => ⟨_, (pss_cons (ps_if (pt_not (pt_val (pe_c1 G_is_like_number (hr.mono (by decide)) (pa_cons (pv 1) pa_nil)))) (pss_one ps_never) pss_nil)
  (pss_cons (ps_set (i := 2) sc_Number___sub__.nd rfl (by first | exact Or.inl rfl | exact Or.inr rfl) (pe_c1 G_number_of (hr.mono (by decide)) (pa_cons (pv 1) pa_nil)))
  (pss_cons (ps_set (i := 3) sc_Number___sub__.nd rfl (by first | exact Or.inl rfl | exact Or.inr rfl) (pe_c1 G_common_root (hr.mono (by decide)) (pa_cons (pv 0) (pa_cons (pv 2) pa_nil))))
  (pss_cons (ps_set (i := 4) sc_Number___sub__.nd rfl (by first | exact Or.inl rfl | exact Or.inr rfl) (pe_op op_sub (pe_op op_mulX (pe_slC T.cN T.sN_top (pv 0)) (pe_slC T.cN T.sN_bottom (pv 2))) (pe_op op_mulX (pe_slC T.cN T.sN_top (pv 2)) (pe_slC T.cN T.sN_bottom (pv 0)))))
  (pss_cons (ps_set (i := 5) sc_Number___sub__.nd rfl (by first | exact Or.inl rfl | exact Or.inr rfl) (pe_op op_sub (pe_op op_mulX (pe_slC T.cN T.sN_part (pv 0)) (pe_slC T.cN T.sN_bottom (pv 2))) (pe_op op_mulX (pe_slC T.cN T.sN_part (pv 2)) (pe_slC T.cN T.sN_bottom (pv 0)))))
  (pss_one (ps_ret (pe_m1 G_Number (hr.mono (by decide)) (pa_cons (pe_m1 G_Form (hr.mono (by decide)) (pa_cons (pv 4) (pa_cons (pv 5) (pa_cons (pv 3) (pa_cons (pe_op op_mulX (pe_slC T.cN T.sN_bottom (pv 0)) (pe_slC T.cN T.sN_bottom (pv 2))) pa_nil))))) pa_nil))))))))), ?_⟩)
  obtain ⟨x, y, a, b, rfl, ⟨a_self, d_self, rfl, h_self⟩, hy, cm, g_self, g_less, _, q⟩ := h
  refine ⟨_, rfl, y, b, rfl, hy, true, rfl, _, rfl, y, b, rfl, hy, fun v H1 s1 hv _ => ?_⟩
  have hx1 : At4 CN H1 (.ref a_self) a := At4.same ⟨a_self, d_self, rfl, h_self⟩ s1
  have cr := cRoot_bd g_self g_less
  obtain ⟨a_less, d_less, rfl, h_less⟩ := id hv
  refine ⟨_, rfl, _, rfl, .ref a_self, _, a, b, rfl, hx1, hv, cm, ?_⟩
  obtain ⟨_, d_self, e, h_self⟩ := hx1
  cases e
  have bb : a.b * b.b ≠ 0 := Int.mul_ne_zero g_self.b0 g_less.b0
  exact ⟨_, rfl, a_self, d_self, _, _, rfl, h_self, rfl, _, rfl, a_less, d_less, _, _, rfl, h_less, rfl, _, _, rfl, rfl, Bd.mulx g_self.t g_less.b (by decide), _, rfl, a_less, d_less, _, _, rfl, h_less, rfl, _, rfl, a_self, d_self, _, _, rfl, h_self, rfl, _, _, rfl, rfl, Bd.mulx g_less.t g_self.b (by decide), _, _, rfl, rfl, _, rfl, a_self, d_self, _, _, rfl, h_self, rfl, _, rfl, a_less, d_less, _, _, rfl, h_less, rfl, _, _, rfl, rfl, Bd.mulx g_self.p g_less.b (by decide), _, rfl, a_less, d_less, _, _, rfl, h_less, rfl, _, rfl, a_self, d_self, _, _, rfl, h_self, rfl, _, _, rfl, rfl, Bd.mulx g_less.p g_self.b (by decide), _, _, rfl, rfl, _, rfl, _, rfl, _, rfl, _, rfl, a_self, d_self, _, _, rfl, h_self, rfl, _, rfl, a_less, d_less, _, _, rfl, h_less, rfl, _, _, rfl, rfl, Bd.mulx g_self.b g_less.b (by decide),
    form_made bb (Bd.mono (Bd.mul g_self.b g_less.b) (by decide)) fun v H2 s2 hf => num_made (.inl ⟨v, rfl, hf⟩) fun u H3 s3 hn => q u H3 ((s1.trans s2).trans s3) (hn.back (s1.trans s2))⟩
theorem sc_Number___mul__ : FnScope ["self", "other", "more", "root", "top", "part"] ["self", "other"] (defScope (inClass (topS 18) 15)) := ⟨rfl, rfl, rfl, by decide +kernel, rfl, by decide +kernel, by decide +kernel⟩
theorem ok_mul (F : Fun K "__mul__" "Number.__mul__" (inClass (topS 18) 15) f fd) (fr : Free mg) (T : NTxt K mg CN CF) (G_is_like_number : GD P w K mg base "is_like_number" 3 (spLike CN)) (G_number_of : GD P w K mg base "number_of" 8 (spNumOf CN))
    (G_common_root : GD P w K mg base "common_root" 2 (spCommon CN)) (G_Form : GM P w K mg base "Form" CF 3 [] (spFormI CF)) (G_Number : GM P w K mg base "Number" CN 6 [.int 0, .int 0, .int 1] (spNumI CN CF)) :
    FnOk P w K mg base CX0 9 f fd ["self", "other"] (spBin CN mulN fun _ _ => True) := by
  refine F.ok sc_Number___mul__ (fun vs H Q E ⟨_, _, _, _, e, _⟩ => by rw [e]; rfl) (fun cdv A outer s H vs Q E hr h => ⟨_, (pss_cons (ps_if (pt_not (pt_val (pe_c1 G_is_like_number (hr.mono (by decide)) (pa_cons (pv 1) pa_nil)))) (pss_one ps_never) pss_nil)
  (pss_cons (ps_set (i := 2) sc_Number___mul__.nd rfl (by first | exact Or.inl rfl | exact Or.inr rfl) (pe_c1 G_number_of (hr.mono (by decide)) (pa_cons (pv 1) pa_nil)))
  (pss_cons (ps_set (i := 3) sc_Number___mul__.nd rfl (by first | exact Or.inl rfl | exact Or.inr rfl) (pe_c1 G_common_root (hr.mono (by decide)) (pa_cons (pv 0) (pa_cons (pv 2) pa_nil))))
  (pss_cons (ps_set (i := 4) sc_Number___mul__.nd rfl (by first | exact Or.inl rfl | exact Or.inr rfl) (pe_op op_add (pe_op op_mulX (pe_slC T.cN T.sN_top (pv 0)) (pe_slC T.cN T.sN_top (pv 2))) (pe_op op_mulX (pe_op op_mulX (pe_slC T.cN T.sN_part (pv 0)) (pe_slC T.cN T.sN_part (pv 2))) (pv 3))))
  (pss_cons (ps_set (i := 5) sc_Number___mul__.nd rfl (by first | exact Or.inl rfl | exact Or.inr rfl) (pe_op op_add (pe_op op_mulX (pe_slC T.cN T.sN_top (pv 0)) (pe_slC T.cN T.sN_part (pv 2))) (pe_op op_mulX (pe_slC T.cN T.sN_part (pv 0)) (pe_slC T.cN T.sN_top (pv 2)))))
  (pss_one (ps_ret (pe_m1 G_Number (hr.mono (by decide)) (pa_cons (pe_m1 G_Form (hr.mono (by decide)) (pa_cons (pv 4) (pa_cons (pv 5) (pa_cons (pv 3) (pa_cons (pe_op op_mulX (pe_slC T.cN T.sN_bottom (pv 0)) (pe_slC T.cN T.sN_bottom (pv 2))) pa_nil))))) pa_nil))))))))), ?_⟩)
  obtain ⟨x, y, a, b, rfl, ⟨a_self, d_self, rfl, h_self⟩, hy, cm, g_self, g_more, _, q⟩ := h
  refine ⟨_, rfl, y, b, rfl, hy, true, rfl, _, rfl, y, b, rfl, hy, fun v H1 s1 hv _ => ?_⟩
  have hx1 : At4 CN H1 (.ref a_self) a := At4.same ⟨a_self, d_self, rfl, h_self⟩ s1
  have cr := cRoot_bd g_self g_more
  obtain ⟨a_more, d_more, rfl, h_more⟩ := id hv
  refine ⟨_, rfl, _, rfl, .ref a_self, _, a, b, rfl, hx1, hv, cm, ?_⟩
  obtain ⟨_, d_self, e, h_self⟩ := hx1
  cases e
  have bb : a.b * b.b ≠ 0 := Int.mul_ne_zero g_self.b0 g_more.b0
  exact ⟨_, rfl, a_self, d_self, _, _, rfl, h_self, rfl, _, rfl, a_more, d_more, _, _, rfl, h_more, rfl, _, _, rfl, rfl, Bd.mulx g_self.t g_more.t (by decide), _, rfl, a_self, d_self, _, _, rfl, h_self, rfl, _, rfl, a_more, d_more, _, _, rfl, h_more, rfl, _, _, rfl, rfl, Bd.mulx g_self.p g_more.p (by decide), _, rfl, _, _, rfl, rfl, Bd.mulx (Bd.mul g_self.p g_more.p) cr (by decide), _, _, rfl, rfl, _, rfl, a_self, d_self, _, _, rfl, h_self, rfl, _, rfl, a_more, d_more, _, _, rfl, h_more, rfl, _, _, rfl, rfl, Bd.mulx g_self.t g_more.p (by decide), _, rfl, a_self, d_self, _, _, rfl, h_self, rfl, _, rfl, a_more, d_more, _, _, rfl, h_more, rfl, _, _, rfl, rfl, Bd.mulx g_self.p g_more.t (by decide), _, _, rfl, rfl, _, rfl, _, rfl, _, rfl, _, rfl, a_self, d_self, _, _, rfl, h_self, rfl, _, rfl, a_more, d_more, _, _, rfl, h_more, rfl, _, _, rfl, rfl, Bd.mulx g_self.b g_more.b (by decide),
    form_made bb (Bd.mono (Bd.mul g_self.b g_more.b) (by decide)) fun v H2 s2 hf => num_made (.inl ⟨v, rfl, hf⟩) fun u H3 s3 hn => q u H3 ((s1.trans s2).trans s3) (hn.back (s1.trans s2))⟩
theorem sc_Number_top : FnScope ["self"] ["self"] (defScope (inClass (topS 18) 3)) := ⟨rfl, rfl, rfl, by decide +kernel, rfl, by decide +kernel, by decide +kernel⟩
theorem ok_p_top (F : Fun K "top" "Number.top" (inClass (topS 18) 3) f fd) (T : NTxt K mg CN CF) : FnOk P w K mg base CX0 2 f fd ["self"] (spInt0 CN fun n => n.t) := by
  refine F.ok sc_Number_top (fun vs H Q E ⟨_, _, e, _⟩ => by rw [e]; rfl) (fun cdv A outer s H vs Q E hr h => ⟨_, (pss_one (ps_ret (pe_slC T.cN T.sN_top (pv 0)))), ?_⟩)
  obtain ⟨x, a, rfl, ⟨a_self, d_self, rfl, h_self⟩, q⟩ := h
  exact ⟨_, rfl, a_self, d_self, _, _, rfl, h_self, rfl, q⟩
theorem sc_Number_part : FnScope ["self"] ["self"] (defScope (inClass (topS 18) 4)) := ⟨rfl, rfl, rfl, by decide +kernel, rfl, by decide +kernel, by decide +kernel⟩
theorem ok_p_part (F : Fun K "part" "Number.part" (inClass (topS 18) 4) f fd) (T : NTxt K mg CN CF) : FnOk P w K mg base CX0 2 f fd ["self"] (spInt0 CN fun n => n.p) := by
  refine F.ok sc_Number_part (fun vs H Q E ⟨_, _, e, _⟩ => by rw [e]; rfl) (fun cdv A outer s H vs Q E hr h => ⟨_, (pss_one (ps_ret (pe_slC T.cN T.sN_part (pv 0)))), ?_⟩)
  obtain ⟨x, a, rfl, ⟨a_self, d_self, rfl, h_self⟩, q⟩ := h
  exact ⟨_, rfl, a_self, d_self, _, _, rfl, h_self, rfl, q⟩
theorem sc_Number_root : FnScope ["self"] ["self"] (defScope (inClass (topS 18) 5)) := ⟨rfl, rfl, rfl, by decide +kernel, rfl, by decide +kernel, by decide +kernel⟩
theorem ok_p_root (F : Fun K "root" "Number.root" (inClass (topS 18) 5) f fd) (T : NTxt K mg CN CF) : FnOk P w K mg base CX0 2 f fd ["self"] (spInt0 CN fun n => n.r) := by
  refine F.ok sc_Number_root (fun vs H Q E ⟨_, _, e, _⟩ => by rw [e]; rfl) (fun cdv A outer s H vs Q E hr h => ⟨_, (pss_one (ps_ret (pe_slC T.cN T.sN_root (pv 0)))), ?_⟩)
  obtain ⟨x, a, rfl, ⟨a_self, d_self, rfl, h_self⟩, q⟩ := h
  exact ⟨_, rfl, a_self, d_self, _, _, rfl, h_self, rfl, q⟩
theorem sc_Number_bottom : FnScope ["self"] ["self"] (defScope (inClass (topS 18) 6)) := ⟨rfl, rfl, rfl, by decide +kernel, rfl, by decide +kernel, by decide +kernel⟩
theorem ok_p_bottom (F : Fun K "bottom" "Number.bottom" (inClass (topS 18) 6) f fd) (T : NTxt K mg CN CF) : FnOk P w K mg base CX0 2 f fd ["self"] (spInt0 CN fun n => n.b) := by
  refine F.ok sc_Number_bottom (fun vs H Q E ⟨_, _, e, _⟩ => by rw [e]; rfl) (fun cdv A outer s H vs Q E hr h => ⟨_, (pss_one (ps_ret (pe_slC T.cN T.sN_bottom (pv 0)))), ?_⟩)
  obtain ⟨x, a, rfl, ⟨a_self, d_self, rfl, h_self⟩, q⟩ := h
  exact ⟨_, rfl, a_self, d_self, _, _, rfl, h_self, rfl, q⟩
theorem sc_Number___eq__ : FnScope ["self", "other"] ["self", "other"] (defScope (inClass (topS 18) 17)) := ⟨rfl, rfl, rfl, by decide +kernel, rfl, by decide +kernel, by decide +kernel⟩
theorem ok_eq (F : Fun K "__eq__" "Number.__eq__" (inClass (topS 18) 17) f fd) (fr : Free mg) (T : NTxt K mg CN CF) : FnOk P w K mg base CX0 2 f fd ["self", "other"] (spEq K CN) := by
  refine F.ok sc_Number___eq__ (fun vs H Q E ⟨_, _, _, e, _⟩ => by rw [e]; rfl) (fun cdv A outer s H vs Q E hr h => ⟨_, (pss_cons (ps_if (PW.pt (pw_or (pt_not (pt_val (pe_callB call_isiU (by rfl) fr.b_isinstance (by decide +kernel) (pa_cons (pv 1) (pa_cons (pe_glob (v := .ref CN) rfl T.gN rfl) pa_nil))))) (pw_or (pt_cmpR op_ne (pe_slC T.cN T.sN_top (pv 0)) (pe_slC T.cN T.sN_top (pv 1)) (nomark _)) (pw_or1 (pt_cmpR op_ne (pe_slC T.cN T.sN_part (pv 0)) (pe_slC T.cN T.sN_part (pv 1)) (nomark _)))))) (pss_one (ps_ret pe_bl)) pss_nil)
  (pss_one (ps_ret (pe_and (pe_cmpR op_eq (pe_slC T.cN T.sN_root (pv 0)) (pe_slC T.cN T.sN_root (pv 1)) (nomark _)) (pe_one (pe_cmpR op_eq (pe_slC T.cN T.sN_bottom (pv 0)) (pe_slC T.cN T.sN_bottom (pv 1)) (nomark _))))))), ?_⟩)
  obtain ⟨x, y, a, rfl, ⟨ax, dx, rfl, hx⟩, ⟨b, hy, q⟩ | ⟨t, ty, hk, q⟩⟩ := h
  rotate_left
  · exact ⟨_, rfl, _, .ref CN, t, _, false, rfl, .own CN, ty, hk, false, rfl, q⟩
  refine ⟨_, rfl, _, .ref CN, _, _, true, rfl, .own CN, hy.ty T.cN T.yN, T.iNN, true, rfl, ?_⟩
  obtain ⟨ay, dy, rfl, hy⟩ := hy
  obtain ⟨at_, ap, ar, ab⟩ := a
  obtain ⟨bt, bp, br, bb⟩ := b
  have no : (at_ ≠ bt ∨ ap ≠ bp) → Q (.bl false) H := fun c => by
    rw [decide_eq_false (show ¬ (Nm.mk at_ ap ar ab = Nm.mk bt bp br bb) from fun e => by cases e; rcases c with c | c <;> exact c rfl)] at q
    exact q
  refine ⟨_, rfl, ax, dx, _, _, rfl, hx, rfl, _, rfl, ay, dy, _, _, rfl, hy, rfl, rfl, _, rfl, ite_ndec (fun c => ?_) fun c => ?_⟩
  · exact no (.inl fun e => c (congrArg V.int e))
  refine ⟨_, rfl, ax, dx, _, _, rfl, hx, rfl, _, rfl, ay, dy, _, _, rfl, hy, rfl, rfl, _, rfl, ite_ndec (fun c => ?_) fun c2 => ?_⟩
  · exact no (.inr fun e => c (congrArg V.int e))
  cases c
  cases c2
  refine ⟨_, rfl, ax, dx, _, _, rfl, hx, rfl, _, rfl, ay, dy, _, _, rfl, hy, rfl, rfl, _, rfl, ite_dec (fun c => ?_) fun c => ?_⟩
  · refine ⟨_, rfl, ax, dx, _, _, rfl, hx, rfl, _, rfl, ay, dy, _, _, rfl, hy, rfl, rfl, ?_⟩
    cases c
    rw [show decide (V.int ab = V.int bb) = decide (Nm.mk at_ ap ar ab = Nm.mk at_ ap ar bb) by
      by_cases e : ab = bb
      · subst e; simp
      · rw [decide_eq_false (fun z => e (V.int.inj z)), decide_eq_false (fun z => e (Nm.mk.inj z).2.2.2)]]
    exact q
  · rw [decide_eq_false (show ¬ (Nm.mk at_ ap ar ab = Nm.mk at_ ap br bb) from fun e => c (congrArg V.int (Nm.mk.inj e).2.2.1))] at q
    exact q
end
inductive All2 {α : Type} (f : V → α → Prop) : List V → List α → Prop where
  | nil : All2 f [] []
  | cons {v : V} {n : α} {vs : List V} {ns : List α} (h : f v n) (t : All2 f vs ns) : All2 f (v :: vs) (n :: ns)
section
variable {α : Type} {f g : V → α → Prop} {vs ws : List V} {ns ms : List α} {v : V} {n : α}
theorem All2.append (h : All2 f vs ns) (k : All2 f ws ms) : All2 f (vs ++ ws) (ns ++ ms) := by
  induction h with
  | nil => exact k
  | cons h _ ih => exact .cons h ih
theorem All2.snoc (h : All2 f vs ns) (k : f v n) : All2 f (vs ++ [v]) (ns ++ [n]) := h.append (.cons k .nil)
theorem All2.imp (h : All2 f vs ns) (k : ∀ v n, f v n → g v n) : All2 g vs ns := by
  induction h with
  | nil => exact .nil
  | cons h _ ih => exact .cons (k _ _ h) ih
theorem All2.len (h : All2 f vs ns) : vs.length = ns.length := by
  induction h with
  | nil => rfl
  | cons h _ ih => rw [List.length_cons, List.length_cons, ih]
theorem All2.get (h : All2 f vs ns) {i : Nat} {n : α} (e : ns[i]? = some n) : ∃ v, vs[i]? = some v ∧ f v n := by
  induction h generalizing i with
  | nil => simp at e
  | cons h _ ih => cases i with
    | zero => simp at e; subst e; exact ⟨_, rfl, h⟩
    | succ i => simpa using ih (by simpa using e)
theorem All2.set (h : All2 f vs ns) (i : Nat) (k : f v n) : All2 f (vs.set i v) (ns.set i n) := by
  induction h generalizing i with
  | nil => exact .nil
  | cons h t ih => cases i with
    | zero => exact .cons k t
    | succ i => exact .cons h (ih i)
theorem All2.take (h : All2 f vs ns) (i : Nat) : All2 f (vs.take i) (ns.take i) := by
  induction h generalizing i with
  | nil => simp; exact .nil
  | cons h t ih => cases i with
    | zero => simp; exact .nil
    | succ i => exact .cons h (ih i)
theorem All2.drop (h : All2 f vs ns) (i : Nat) : All2 f (vs.drop i) (ns.drop i) := by
  induction h generalizing i with
  | nil => simp; exact .nil
  | cons h t ih => cases i with
    | zero => exact .cons h t
    | succ i => simpa using ih i
theorem All2.of_map {β : Type} (t : α → V) (k : ∀ n, f (t n) n) : ∀ ns : List α, All2 f (ns.map t) ns
  | [] => .nil
  | n :: ns => .cons (k n) (All2.of_map (β := β) t k ns)
theorem All2.to_map (t : α → V) (k : ∀ v n, f v n → v = t n) (h : All2 f vs ns) : vs = ns.map t := by
  induction h with
  | nil => rfl
  | cons h _ ih => rw [k _ _ h, ih]; rfl
end
def SameB (p : Addr) (H H' : Hp) : Prop := ∀ b o, b ≠ p → H b = some o → H' b = some o
theorem SameB.refl (p : Addr) (H : Hp) : SameB p H H := fun _ _ _ h => h
theorem SameB.trans {p : Addr} {H H1 H2 : Hp} (a : SameB p H H1) (b : SameB p H1 H2) : SameB p H H2 := fun c o n h => b c o n (a c o n h)
theorem Same.b {p : Addr} {H H' : Hp} (a : Same H H') : SameB p H H' := fun b o _ h => a b o h
theorem SameB.upd {p : Addr} {H H' : Hp} {o : HO} (a : SameB p H H') : SameB p H (upd H' p o) := fun b u n h => by rw [upd_ne n]; exact a b u n h
theorem same_upd {H : Hp} {p : Addr} {o : HO} (h : H p = none) : Same H (upd H p o) := fun b u e => by rw [upd_ne (ne_of_none e h)]; exact e
def Dice (p : Addr) (H : Hp) (c : Nat) : Prop := ∃ d0 d1 d2 : Int, H p = some (.lst [.int d0, .int d1, .int d2]) ∧ 0 ≤ d0 ∧ Bd 420 d0 ∧ Bd 200 d1 ∧ 0 ≤ d2 ∧ d2 ≤ c
theorem Dice.same {p : Addr} {H H' : Hp} {c : Nat} (d : Dice p H c) (s : Same H H') : Dice p H' c := by
  obtain ⟨d0, d1, d2, h, r⟩ := d
  exact ⟨d0, d1, d2, s _ _ h, r⟩
theorem Dice.mono {p : Addr} {H : Hp} {c c' : Nat} (d : Dice p H c) (l : c ≤ c') : Dice p H c' := by
  obtain ⟨d0, d1, d2, h, a, b, e, f, g⟩ := d
  exact ⟨d0, d1, d2, h, a, b, e, f, by omega⟩
structure Er where
  cls : Str
  val : PyData
structure M (α : Type) where
  wp : Nat → (α → Nat → Prop) → (Er → Prop) → Prop
  mono : ∀ (c : Nat) {P Q : α → Nat → Prop} {X Y : Er → Prop}, (∀ a d, P a d → Q a d) → (∀ e, X e → Y e) → wp c P X → wp c Q Y
namespace M
variable {α β γ : Type}
def ret (a : α) : M α := ⟨fun c Q _ => Q a c, fun _ _ _ _ _ h _ k => h _ _ k⟩
def bind (m : M α) (f : α → M β) : M β := ⟨fun c Q X => m.wp c (fun a d => (f a).wp d Q X) X, fun c _ _ _ _ h x k => m.mono c (fun a d q => (f a).mono d h x q) x k⟩
def need (p : Prop) (m : M α) : M α := ⟨fun c Q X => p ∧ m.wp c Q X, fun c _ _ _ _ h x k => ⟨k.1, m.mono c h x k.2⟩⟩
def anyOf (P : α → Prop) : M α := ⟨fun c Q _ => ∀ a, P a → Q a c, fun _ _ _ _ _ h _ k a p => h _ _ (k a p)⟩
def the (o : Option α) : M α := ⟨fun c Q _ => ∃ a, o = some a ∧ Q a c, fun _ _ _ _ _ h _ ⟨a, e, k⟩ => ⟨a, e, h _ _ k⟩⟩
def ifb (b : Bool) (m n : M α) : M α := ⟨fun c Q X => if b = true then m.wp c Q X else n.wp c Q X, fun c _ _ _ _ h x k => by
  by_cases e : b = true
  · rw [if_pos e] at k ⊢; exact m.mono c h x k
  · rw [if_neg e] at k ⊢; exact n.mono c h x k⟩
def raise (e : Er) : M α := ⟨fun _ _ X => X e, fun _ _ _ _ _ _ x k => x _ k⟩
def still (m : M α) : M α := ⟨fun c Q X => m.wp 0 (fun a _ => Q a c) X, fun _ _ _ _ _ h x k => m.mono 0 (fun a _ q => h _ _ q) x k⟩
def roll (t : Int) : M Int := ⟨fun c Q _ => c < 2 ^ 60 ∧ 0 < t ∧ Bd 9000 t ∧ ∀ r, 0 ≤ r → r < t → Q r (c + 1), fun c _ _ _ _ h _ k => ⟨k.1, k.2.1, k.2.2.1, fun r a b => h _ _ (k.2.2.2 r a b)⟩⟩
def pick (xs : List α) : M α := ⟨fun c Q _ => c < 2 ^ 60 ∧ 0 < xs.length ∧ xs.length ≤ 1000 ∧ ∀ x ∈ xs, Q x (c + 1), fun c _ _ _ _ h _ k => ⟨k.1, k.2.1, k.2.2.1, fun x a => h _ _ (k.2.2.2 x a)⟩⟩
end M
def lsty : HO → Bool
  | .lst _ => true
  | .dK _ => true
  | .dT _ => true
  | .set _ _ => true
  | _ => false
def NwL (H : Hp) (D : Addr) : Prop := H D = none ∨ ∃ o, H D = some o ∧ lsty o = true
theorem NwL.lst {H : Hp} {D : Addr} {vs : List V} (h : H D = some (.lst vs)) : NwL H D := .inr ⟨_, h, rfl⟩
theorem NwL.dK {H : Hp} {D : Addr} {kvs : List (Key × V)} (h : H D = some (.dK kvs)) : NwL H D := .inr ⟨_, h, rfl⟩
theorem some_ne {H : Hp} {b : Addr} {o : HO} (h : H b = some o) : H b ≠ none := fun z => by rw [h] at z; cases z
def ntB : HO → Bool
  | .tbl _ => false
  | _ => true
def Tb (F H : Hp) (P : Addr) (q : Str) : Prop := F P = none ∧ ∃ ps : Array Value, H P = some (.tbl ps) ∧ TriplesOk ps.toList ∧ ∀ (pos : Pos) (cv : Value), codeAmong pos ps.toList = some cv → ∃ c, cv = .ref c ∧ F c = some (LamX.CodeO c q)
theorem Tb.go {F H F' H' : Hp} {P : Addr} {q : Str} (h : Tb F H P q) (fP : F' P = none) (hP : ∀ o, H P = some o → H' P = some o) (s : Same F F') : Tb F' H' P q := by
  obtain ⟨_, ps, h1, h2, h3⟩ := h
  refine ⟨fP, ps, hP _ h1, h2, fun pos cv hc => ?_⟩
  obtain ⟨c, e, hc⟩ := h3 pos cv hc
  exact ⟨c, e, s _ _ hc⟩
theorem Tb.ne {F H : Hp} {P D : Addr} {q : Str} (h : Tb F H P q) (n : H D = none) : P ≠ D := fun e => by
  obtain ⟨_, ps, h1, _⟩ := h
  rw [e, n] at h1; cases h1
theorem Tb.nd {F H : Hp} {P D : Addr} {q : Str} {o : HO} (h : Tb F H P q) (n : H D = some o) (nt : ntB o = true) : P ≠ D := fun e => by
  obtain ⟨_, ps, h1, _⟩ := h
  rw [e, n] at h1; cases h1; cases nt
def tbN : List (Addr × Str) := []
def TbA (F H : Hp) : Prop := ∀ p ∈ tbN, Tb F H p.1 p.2
structure ExtX (p : Option Addr) (F H F' H' : Hp) : Prop where
  fz : Same F F'
  sub : Same F' H'
  hpn : ∀ b o, p ≠ some b → ntB o = true → H b = some o → H' b = some o
  old : ∀ b, H b ≠ none → F' b = F b
  on : ∀ b, H b ≠ none → H' b ≠ none
  tb : TbA F H → TbA F' H'
theorem ExtX.hp {p : Option Addr} {F H F' H' : Hp} (x : ExtX p F H F' H') (b : Addr) (o : HO) (n : p ≠ some b) (h : H b = some o) (nt : ntB o = true := by rfl) : H' b = some o := x.hpn b o n nt h
theorem ExtX.refl {p : Option Addr} {F H : Hp} (s : Same F H) : ExtX p F H F H := ⟨Same.refl F, s, fun _ _ _ _ h => h, fun _ _ => rfl, fun _ h => h, fun h => h⟩
theorem ExtX.trans {p : Option Addr} {F H F1 H1 F2 H2 : Hp} (a : ExtX p F H F1 H1) (b : ExtX p F1 H1 F2 H2) : ExtX p F H F2 H2 :=
  ⟨a.fz.trans b.fz, b.sub, fun c o n t h => b.hpn c o n t (a.hpn c o n t h), fun c n => (b.old c (a.on c n)).trans (a.old c n), fun c n => b.on c (a.on c n), fun h => b.tb (a.tb h)⟩
theorem ExtX.new {p : Option Addr} {F H : Hp} (s : Same F H) {q : Addr} (n : H q = none) (o : HO) : ExtX p F H (upd F q o) (upd H q o) := by
  have nF : F q = none := s.free n
  refine ⟨same_upd nF, fun b u e => ?_, fun b u _ _ e => same_upd n b u e, fun b h => ?_, fun b nb => ?_, fun ta r hr => (ta r hr).go ((upd_ne ((ta r hr).ne n)).trans (ta r hr).1) (same_upd n r.1) (same_upd nF)⟩
  · by_cases c : b = q
    · subst c; rw [upd_same] at e ⊢; exact e
    · rw [upd_ne c] at e ⊢; exact s _ _ e
  · exact upd_ne fun z => h (by rw [z]; exact n)
  · by_cases c : b = q
    · subst c; rw [upd_same]; simp
    · rw [upd_ne c]; exact nb
theorem ExtX.own {p : Option Addr} {F H : Hp} (s : Same F H) {q : Addr} (n : H q = none) (o : HO) : ExtX p F H F (upd H q o) := by
  refine ⟨Same.refl F, fun b u e => same_upd n _ _ (s _ _ e), fun b u _ _ e => same_upd n b u e, fun b _ => rfl, fun b nb => ?_, fun ta r hr => (ta r hr).go (ta r hr).1 (same_upd n r.1) (Same.refl F)⟩
  by_cases c : b = q
  · subst c; rw [upd_same]; simp
  · rw [upd_ne c]; exact nb
theorem ExtX.same {p : Option Addr} {F H H' : Hp} (s : Same F H) (e : Same H H') : ExtX p F H F H' :=
  ⟨Same.refl F, s.trans e, fun b o _ _ h => e b o h, fun _ _ => rfl, fun b nb => by
    cases q : H b with
    | none => exact absurd q nb
    | some o => rw [e b o q]; simp, fun ta r hr => (ta r hr).go (ta r hr).1 (fun o z => e r.1 o z) (Same.refl F)⟩
structure Cn where
  p : Option Addr
  F0 : Hp
  H0 : Hp
structure Wo (k : Cn) (F H : Hp) (c : Nat) : Prop where
  sub : Same F H
  ext : ExtX k.p k.F0 k.H0 F H
  dice : ∀ a, k.p = some a → F a = none ∧ k.H0 a ≠ none ∧ Dice a H c
theorem Wo.new {k : Cn} {F H : Hp} {c : Nat} (w : Wo k F H c) {q : Addr} (n : H q = none) (o : HO) : Wo k (upd F q o) (upd H q o) c := by
  have x := ExtX.new (p := k.p) w.sub n o
  refine ⟨x.sub, w.ext.trans x, fun a e => ?_⟩
  obtain ⟨h1, h2, h3⟩ := w.dice a e
  have ne : a ≠ q := fun z => by
    subst z
    obtain ⟨_, _, _, h, _⟩ := h3
    rw [h] at n; cases n
  refine ⟨by rw [upd_ne ne]; exact h1, h2, h3.same (same_upd n)⟩
theorem Wo.own {k : Cn} {F H : Hp} {c : Nat} (w : Wo k F H c) {q : Addr} (n : H q = none) (o : HO) : Wo k F (upd H q o) c := by
  have x := ExtX.own (p := k.p) w.sub n o
  refine ⟨x.sub, w.ext.trans x, fun a e => ?_⟩
  obtain ⟨h1, h2, h3⟩ := w.dice a e
  exact ⟨h1, h2, h3.same (same_upd n)⟩
theorem Wo.call {k : Cn} {F H F' H' : Hp} {c : Nat} (w : Wo k F H c) (x : ExtX none F H F' H') : ExtX k.p F H F' H' ∧ Wo k F' H' c := by
  have y : ExtX k.p F H F' H' := ⟨x.fz, x.sub, fun b o _ t h => x.hpn b o (fun z => nomatch z) t h, x.old, x.on, x.tb⟩
  refine ⟨y, x.sub, w.ext.trans y, fun a e => ?_⟩
  obtain ⟨h1, h2, h3⟩ := w.dice a e
  obtain ⟨d0, d1, d2, h, r⟩ := h3
  exact ⟨(x.old a (some_ne h)).trans h1, h2, d0, d1, d2, x.hp a _ (fun z => nomatch z) h, r⟩
structure Rp (α : Type) where
  r : Hp → V → α → Prop
  st : ∀ {F F' : Hp} {v : V} {a : α}, Same F F' → r F v a → r F' v a
def rInt : Rp Int := ⟨fun _ v i => v = .int i, fun _ h => h⟩
def rBl : Rp Bool := ⟨fun _ v b => v = .bl b, fun _ h => h⟩
def rStr : Rp Str := ⟨fun _ v x => v = .str x, fun _ h => h⟩
def rNon : Rp Unit := ⟨fun _ v _ => v = .non, fun _ h => h⟩
theorem same_seqT {K : PySem.W.Frag} {H H' : Hp} {a : Addr} {xs : List V} (e : Same H H') (h : SqT K H a xs) : SqT K H' a xs := by
  rcases h with (h | ⟨o, h⟩) | h
  · exact .inl (.inl (e _ _ h))
  · exact .inl (.inr ⟨o, e _ _ h⟩)
  · exact .inr h
def rTup {α : Type} (K : PySem.W.Frag) (R : Rp α) : Rp (List α) :=
  ⟨fun F v xs => ∃ p vs, v = .ref p ∧ SqT K F p vs ∧ All2 (R.r F) vs xs, fun s ⟨p, vs, e, h, t⟩ => ⟨p, vs, e, same_seqT s h, t.imp fun _ _ g => R.st s g⟩⟩
structure RA (α : Type) where
  r : Hp → List V → α → Prop
  st : ∀ {F F' : Hp} {vs : List V} {a : α}, Same F F' → r F vs a → r F' vs a
  n : Nat
  len : ∀ {F : Hp} {vs : List V} {a : α}, r F vs a → vs.length = n
def aNil : RA Unit := ⟨fun _ vs _ => vs = [], fun _ h => h, 0, fun h => by rw [h]; rfl⟩
def aCons {α β : Type} (R : Rp α) (S : RA β) : RA (α × β) :=
  ⟨fun F vs a => ∃ v ws, vs = v :: ws ∧ R.r F v a.1 ∧ S.r F ws a.2, fun s ⟨v, ws, e, h, t⟩ => ⟨v, ws, e, R.st s h, S.st s t⟩, S.n + 1, fun ⟨v, ws, e, h, t⟩ => by rw [e, List.length_cons, S.len t]⟩
def rTx {α : Type} (K : PySem.W.Frag) (S : RA α) : Rp α :=
  ⟨fun F v a => ∃ p vs, v = .ref p ∧ SqT K F p vs ∧ S.r F vs a, fun s ⟨p, vs, e, h, t⟩ => ⟨p, vs, e, same_seqT s h, S.st s t⟩⟩
structure SR (α : Type) where
  r : Option Addr → Hp → Hp → Hp → Option V → α → Prop
  own : Option V → Option Addr
  step : ∀ {p : Option Addr} {H0 F H F' H' : Hp} {o : Option V} {a : α}, ExtX p F H F' H' → r p H0 F H o a → r p H0 F' H' o a
  upd : ∀ {p : Option Addr} {H0 F H : Hp} {o : Option V} {a : α} {D : Addr} {x : HO}, own o ≠ some D → NwL H D → r p H0 F H o a → r p H0 F (L2.upd H D x) o a
  fz : ∀ {p : Option Addr} {H0 F H : Hp} {o : Option V} {a : α} {D : Addr} {x : HO}, Same F (L2.upd F D x) → own o ≠ some D → NwL H D → r p H0 F H o a → r p H0 (L2.upd F D x) H o a
  has : ∀ {p : Option Addr} {H0 F H : Hp} {o : Option V} {a : α} {D : Addr}, r p H0 F H o a → own o = some D → H D ≠ none ∧ F D = none ∧ H0 D = none ∧ p ≠ some D
def sUn : SR Unit := ⟨fun _ _ _ _ _ _ => True, fun _ => none, fun _ h => h, fun _ _ h => h, fun _ _ _ h => h, fun _ e => nomatch e⟩
def sVal {α : Type} (R : Rp α) : SR α :=
  ⟨fun _ _ F _ o a => ∃ v, o = some v ∧ R.r F v a, fun _ => none, fun x ⟨v, e, h⟩ => ⟨v, e, R.st x.fz h⟩, fun _ _ h => h, fun s _ _ ⟨v, e, h⟩ => ⟨v, e, R.st s h⟩, fun _ e => nomatch e⟩
def sDice : SR Unit := ⟨fun p _ _ _ o _ => ∃ a, o = some (.ref a) ∧ p = some a, fun _ => none, fun _ h => h, fun _ _ h => h, fun _ _ _ h => h, fun _ e => nomatch e⟩
structure EV (Γ : Type) where
  r : Option Addr → Hp → Hp → Hp → L2.St → Γ → Prop
  owns : L2.St → List Addr
  step : ∀ {p : Option Addr} {H0 F H F' H' : Hp} {σ : L2.St} {ρ : Γ}, ExtX p F H F' H' → r p H0 F H σ ρ → r p H0 F' H' σ ρ
  upd : ∀ {p : Option Addr} {H0 F H : Hp} {σ : L2.St} {ρ : Γ} {D : Addr} {x : HO}, D ∉ owns σ → NwL H D → r p H0 F H σ ρ → r p H0 F (L2.upd H D x) σ ρ
  fz : ∀ {p : Option Addr} {H0 F H : Hp} {σ : L2.St} {ρ : Γ} {D : Addr} {x : HO}, Same F (L2.upd F D x) → D ∉ owns σ → NwL H D → r p H0 F H σ ρ → r p H0 (L2.upd F D x) H σ ρ
  has : ∀ {p : Option Addr} {H0 F H : Hp} {σ : L2.St} {ρ : Γ} {D : Addr}, r p H0 F H σ ρ → D ∈ owns σ → H D ≠ none ∧ F D = none ∧ H0 D = none ∧ p ≠ some D
def eNil : EV Unit := ⟨fun _ _ _ _ σ _ => σ = [], fun _ => [], fun _ h => h, fun _ _ h => h, fun _ _ _ h => h, fun _ h => nomatch h⟩
def eCons {α Γ : Type} (S : SR α) (E : EV Γ) : EV (α × Γ) where
  r := fun p H0 F H σ ρ => ∃ o τ, σ = o :: τ ∧ S.r p H0 F H o ρ.1 ∧ E.r p H0 F H τ ρ.2
  owns := fun σ => match σ with
    | [] => []
    | o :: τ => (S.own o).toList ++ E.owns τ
  step := fun x ⟨o, τ, e, h, t⟩ => ⟨o, τ, e, S.step x h, E.step x t⟩
  upd := fun c w ⟨o, τ, e, h, t⟩ => ⟨o, τ, e, S.upd (fun z => c (by rw [e]; exact List.mem_append_left _ (by rw [z]; simp))) w h, E.upd (fun z => c (by rw [e]; exact List.mem_append_right _ z)) w t⟩
  fz := fun s c w ⟨o, τ, e, h, t⟩ => ⟨o, τ, e, S.fz s (fun z => c (by rw [e]; exact List.mem_append_left _ (by rw [z]; simp))) w h, E.fz s (fun z => c (by rw [e]; exact List.mem_append_right _ z)) w t⟩
  has := fun ⟨o, τ, e, h, t⟩ c => by
    subst e
    rcases List.mem_append.mp c with c | c
    · exact S.has h (by cases q : S.own o with
        | none => rw [q] at c; simp at c
        | some x => rw [q] at c; simp at c; rw [c])
    · exact E.has t c
structure EI {Γ : Type} (k : Cn) (E : EV Γ) (F H : Hp) (σ : L2.St) (ρ : Γ) : Prop where
  r : E.r k.p k.H0 F H σ ρ
  nd : (E.owns σ).Nodup
theorem EI.step {Γ : Type} {k : Cn} {E : EV Γ} {F H F' H' : Hp} {σ : L2.St} {ρ : Γ} (e : EI k E F H σ ρ) (x : ExtX k.p F H F' H') : EI k E F' H' σ ρ := ⟨E.step x e.r, e.nd⟩
structure GetS {Γ α : Type} (E : EV Γ) (i : Nat) (S : SR α) (g : Γ → α) : Prop where
  get : ∀ {p : Option Addr} {H0 F H : Hp} {σ : L2.St} {ρ : Γ}, E.r p H0 F H σ ρ → ∃ o, σ[i]? = some o ∧ S.r p H0 F H o (g ρ)
theorem get0 {Γ α : Type} {S : SR α} {E : EV Γ} : GetS (eCons S E) 0 S (·.1) := ⟨fun ⟨o, τ, e, h, _⟩ => ⟨o, by rw [e]; rfl, h⟩⟩
theorem getS {Γ α β : Type} {S : SR α} {T : SR β} {E : EV Γ} {i : Nat} {g : Γ → α} (h : GetS E i S g) : GetS (eCons T E) (i + 1) S (fun ρ => g ρ.2) :=
  ⟨fun ⟨o, τ, e, _, t⟩ => by obtain ⟨o', q, r⟩ := h.get t; exact ⟨o', by rw [e]; simpa using q, r⟩⟩
structure PutS {Γ Γ' β : Type} (E : EV Γ) (i : Nat) (S' : SR β) (E' : EV Γ') (put : Γ → β → Γ') : Prop where
  put : ∀ {p : Option Addr} {H0 F H : Hp} {σ : L2.St} {ρ : Γ} {o : Option V} {b : β}, E.r p H0 F H σ ρ → S'.r p H0 F H o b → E'.r p H0 F H (σ.set i o) (put ρ b)
  sub : ∀ {σ : L2.St} {o : Option V} {x : Addr}, x ∈ E'.owns (σ.set i o) → x ∈ E.owns σ ∨ S'.own o = some x
  nd : ∀ {σ : L2.St} {o : Option V}, (E.owns σ).Nodup → (∀ D, S'.own o = some D → D ∉ E.owns σ) → (E'.owns (σ.set i o)).Nodup
theorem put0 {Γ α β : Type} {S : SR α} {S' : SR β} {E : EV Γ} : PutS (eCons S E) 0 S' (eCons S' E) (fun ρ b => (b, ρ.2)) where
  put := fun ⟨o, τ, e, _, t⟩ h => ⟨_, τ, by rw [e]; rfl, h, t⟩
  sub := fun {σ o x} h => by
    cases σ with
    | nil => exact .inl h
    | cons y τ =>
      rcases List.mem_append.mp h with h | h
      · exact .inr (by cases q : S'.own o with
          | none => rw [q] at h; simp at h
          | some x => rw [q] at h; simp at h; rw [h])
      · exact .inl (List.mem_append_right _ h)
  nd := fun {σ o} n a => by
    cases σ with
    | nil => exact n
    | cons y τ =>
      have n2 : (E.owns τ).Nodup := (List.nodup_append.mp n).2.1
      show ((S'.own o).toList ++ E.owns τ).Nodup
      cases q : S'.own o with
      | none => simpa using n2
      | some x => simpa using ⟨fun z => a x q (List.mem_append_right _ z), n2⟩
theorem putS {Γ Γ' α β : Type} {S' : SR β} {T : SR α} {E : EV Γ} {E' : EV Γ'} {i : Nat} {put : Γ → β → Γ'} (h : PutS E i S' E' put) : PutS (eCons T E) (i + 1) S' (eCons T E') (fun ρ b => (ρ.1, put ρ.2 b)) where
  put := fun ⟨o, τ, e, q, t⟩ s => ⟨o, τ.set i _, by rw [e]; rfl, q, h.put t s⟩
  sub := fun {σ o x} z => by
    cases σ with
    | nil => exact .inl z
    | cons y τ =>
      rcases List.mem_append.mp z with z | z
      · exact .inl (List.mem_append_left _ z)
      · exact (h.sub z).imp (List.mem_append_right _) id
  nd := fun {σ o} n a => by
    cases σ with
    | nil => exact n
    | cons y τ =>
      obtain ⟨n1, n2, n3⟩ := List.nodup_append.mp n
      refine List.nodup_append.mpr ⟨n1, h.nd n2 fun D e z => a D e (List.mem_append_right _ z), fun x hx y' hy z => ?_⟩
      subst z
      rcases h.sub hy with hy | hy
      · exact n3 x hx x hy rfl
      · exact a x hy (List.mem_append_left _ hx)
structure ModS {Γ α : Type} (E : EV Γ) (i : Nat) (R : Rp α) (g : Γ → List α) (put : Γ → List α → Γ) : Prop where
  get : ∀ {p : Option Addr} {H0 F H : Hp} {σ : L2.St} {ρ : Γ}, E.r p H0 F H σ ρ → ∃ D vs, σ[i]? = some (some (.ref D)) ∧ H D = some (.lst vs) ∧ All2 (R.r F) vs (g ρ) ∧ D ∈ E.owns σ
  mod : ∀ {p : Option Addr} {H0 F H : Hp} {σ : L2.St} {ρ : Γ} {D : Addr} {vs : List V} {xs : List α}, E.r p H0 F H σ ρ → (E.owns σ).Nodup → σ[i]? = some (some (.ref D)) → All2 (R.r F) vs xs → E.r p H0 F (upd H D (.lst vs)) σ (put ρ xs)
structure Md where
  Z : Hp → Er → Value → Option Addr → Prop
  XE : XK
def md0 : Md := ⟨fun _ _ _ _ => True, fun _ _ _ => False⟩
def VP {α : Type} (k : Cn) (F H : Hp) (R : Rp α) (Q : VK) : α → Nat → Prop := fun a c' => ∀ v F' H', ExtX k.p F H F' H' → Wo k F' H' c' → R.r F' v a → Q v H'
def VN {α : Type} (k : Cn) (F H : Hp) (R : Rp α) (Q : VK) : List α → Nat → Prop := fun xs c' => ∀ D vs F' H', ExtX k.p F H F' H' → Wo k F' H' c' → H D = none → k.H0 D = none → H' D = some (.lst vs) → F' D = none → All2 (R.r F') vs xs → Q (.ref D) H'
def XP (μ : Md) (k : Cn) : Er → Prop := fun e => ∀ cls d F' H', ExtX k.p k.F0 k.H0 F' H' → μ.Z F' e cls d → μ.XE cls d H'
def AP {α : Type} (k : Cn) (F H : Hp) (S : RA α) (Q : List V → Hp → Prop) : α → Nat → Prop := fun a c' => ∀ vs F' H', ExtX k.p F H F' H' → Wo k F' H' c' → S.r F' vs a → Q vs H'
def BP (k : Cn) (F H : Hp) (Q : Bool → Hp → Prop) : Bool → Nat → Prop := fun b c' => ∀ F' H', ExtX k.p F H F' H' → Wo k F' H' c' → Q b H'
def Walks {α : Type} (J : It) (F1 : Hp) (R : Rp α) (xs : List α) : Prop := ∀ (i : Nat) (F' H' : Hp), Same F1 F' → Same F' H' →
  (∀ a, xs[i]? = some a → J.go i H' ∧ ∀ x H'', J.yld i H' x H'' → ∃ F'', ExtX none F' H' F'' H'' ∧ R.r F'' x a) ∧ (xs.length ≤ i → J.stop i H')
def IP {α : Type} (k : Cn) (F H : Hp) (R : Rp α) (W : It → Hp → Prop) : List α → Nat → Prop := fun xs c' => ∀ J F' H', ExtX k.p F H F' H' → Wo k F' H' c' → Walks J F' R xs → W J H'
section
variable {Γ : Type} {α β γ : Type} (μ : Md)
def SE (E : EV Γ) (R : Rp α) (te : TE) (m : Γ → M α) : Prop := ∀ (k : Cn) (F H : Hp) (σ : L2.St) (ρ : Γ) (c : Nat) (Q : VK), Wo k F H c → EI k E F H σ ρ → (m ρ).wp c (VP k F H R Q) (XP μ k) → te σ H Q
def SN (E : EV Γ) (R : Rp α) (te : TE) (m : Γ → M (List α)) : Prop := ∀ (k : Cn) (F H : Hp) (σ : L2.St) (ρ : Γ) (c : Nat) (Q : VK), Wo k F H c → EI k E F H σ ρ → (m ρ).wp c (VN k F H R Q) (XP μ k) → te σ H Q
def ST (E : EV Γ) (tt : TT) (m : Γ → M Bool) : Prop := ∀ (k : Cn) (F H : Hp) (σ : L2.St) (ρ : Γ) (c : Nat) (Q : Bool → Hp → Prop), Wo k F H c → EI k E F H σ ρ → (m ρ).wp c (BP k F H Q) (XP μ k) → tt σ H Q
def SA (E : EV Γ) (S : RA α) (ta : TA) (m : Γ → M α) : Prop := ∀ (k : Cn) (F H : Hp) (σ : L2.St) (ρ : Γ) (c : Nat) (Q : List V → Hp → Prop), Wo k F H c → EI k E F H σ ρ → (m ρ).wp c (AP k F H S Q) (XP μ k) → ta σ H Q
def SI (E : EV Γ) (R : Rp α) (wi : TI) (m : Γ → M (List α)) : Prop := ∀ (k : Cn) (F H : Hp) (σ : L2.St) (ρ : Γ) (c : Nat) (W : It → Hp → Prop), Wo k F H c → EI k E F H σ ρ → (m ρ).wp c (IP k F H R W) (XP μ k) → wi σ H W
def OpS (r : R2) (Ra : Rp α) (Rb : Rp β) (R : Rp γ) (mf : α → β → M γ) : Prop := ∀ (k : Cn) (F H : Hp) (c : Nat) (x y : V) (a : α) (b : β) (Q : VK), Wo k F H c → Ra.r F x a → Rb.r F y b → (mf a b).wp c (VP k F H R Q) (XP μ k) → r x y H Q
def OpN (r : R2) (Ra : Rp α) (Rb : Rp β) (R : Rp γ) (mf : α → β → M (List γ)) : Prop := ∀ (k : Cn) (F H : Hp) (c : Nat) (x y : V) (a : α) (b : β) (Q : VK), Wo k F H c → Ra.r F x a → Rb.r F y b → (mf a b).wp c (VN k F H R Q) (XP μ k) → r x y H Q
def UnS (r : V → Hp → VK → Prop) (Ra : Rp α) (R : Rp γ) (mf : α → M γ) : Prop := ∀ (k : Cn) (F H : Hp) (c : Nat) (x : V) (a : α) (Q : VK), Wo k F H c → Ra.r F x a → (mf a).wp c (VP k F H R Q) (XP μ k) → r x H Q
def CaS (r : List V → Hp → VK → Prop) (S : RA α) (R : Rp γ) (mf : α → M γ) : Prop := ∀ (k : Cn) (F H : Hp) (c : Nat) (vs : List V) (a : α) (Q : VK), Wo k F H c → S.r F vs a → (mf a).wp c (VP k F H R Q) (XP μ k) → r vs H Q
end
def rLs {α : Type} (R : Rp α) : Rp (List α) :=
  ⟨fun F v xs => ∃ p vs, v = .ref p ∧ F p = some (.lst vs) ∧ All2 (R.r F) vs xs, fun s ⟨p, vs, e, h, t⟩ => ⟨p, vs, e, s _ _ h, t.imp fun _ _ g => R.st s g⟩⟩
section
variable {Γ Γ' : Type} {α β γ δ : Type} {μ : Md} {E : EV Γ} {Ra : Rp α} {Rb : Rp β} {R : Rp γ} {Rd : Rp δ}
theorem VP.ext {k : Cn} {F H F1 H1 : Hp} {Q : VK} {a : α} {c : Nat} (x : ExtX k.p F H F1 H1) (h : VP k F H Ra Q a c) : VP k F1 H1 Ra Q a c := fun v F' H' y w r => h v F' H' (x.trans y) w r
theorem VN.ext {k : Cn} {F H F1 H1 : Hp} {Q : VK} {a : List α} {c : Nat} (x : ExtX k.p F H F1 H1) (h : VN k F H Ra Q a c) : VN k F1 H1 Ra Q a c := fun D vs F' H' y w n n0 r f t => h D vs F' H' (x.trans y) w (by
  cases q : H D with
  | none => rfl
  | some o => exact absurd n (x.on D (by rw [q]; simp))) n0 r f t
theorem wp_imp {m : M α} {c : Nat} {P Q : α → Nat → Prop} {X : Er → Prop} (h : m.wp c P X) (f : ∀ a d, P a d → Q a d) : m.wp c Q X := m.mono c f (fun _ z => z) h
theorem Wo.h0 {k : Cn} {F H : Hp} {c : Nat} (w : Wo k F H c) {D : Addr} (n : H D = none) : k.H0 D = none := by
  cases q : k.H0 D with
  | none => rfl
  | some o => exact absurd n (w.ext.on D (by rw [q]; simp))
theorem Wo.np {k : Cn} {F H : Hp} {c : Nat} (w : Wo k F H c) {D : Addr} (n : k.H0 D = none) : k.p ≠ some D := fun e => (w.dice D e).2.1 n
theorem Wo.fz {k : Cn} {F H : Hp} {c : Nat} (w : Wo k F H c) {D : Addr} {o : HO} (n : k.H0 D = none) (f : F D = none) (h : H D = some o) : Same F (upd F D o) ∧ Wo k (upd F D o) H c := by
  have s : Same F (upd F D o) := same_upd f
  have sub : Same (upd F D o) H := fun b u e => by
    by_cases z : b = D
    · subst z; rw [upd_same] at e; rw [h]; exact e
    · rw [upd_ne z] at e; exact w.sub _ _ e
  have h0 : ∀ b, k.H0 b ≠ none → b ≠ D := fun b nb z => by subst z; exact nb n
  exact ⟨s, sub, ⟨w.ext.fz.trans s, sub, w.ext.hpn, fun b hb => by rw [upd_ne (h0 b hb)]; exact w.ext.old b hb, w.ext.on, fun ta p hp => (w.ext.tb ta p hp).go ((upd_ne ((ta p hp).ne n)).trans (w.ext.tb ta p hp).1) (fun _ z => z) s⟩, fun a e => by
    obtain ⟨q1, q2, q3⟩ := w.dice a e
    exact ⟨by rw [upd_ne (h0 a q2)]; exact q1, q2, q3⟩⟩
theorem VN.of {k : Cn} {F H : Hp} {Q : VK} {xs : List α} {c : Nat} (h : VP k F H (rLs Ra) Q xs c) : VN k F H Ra Q xs c := fun D vs F' H' x w n n0 r f t => by
  obtain ⟨s, w2⟩ := w.fz n0 f r
  exact h (.ref D) _ H' ⟨x.fz.trans s, w2.sub, x.hpn, fun b hb => by
    rw [upd_ne (fun z => hb (by rw [z]; exact n))]; exact x.old b hb, x.on, fun ta p hp => (x.tb ta p hp).go ((upd_ne ((ta p hp).ne n)).trans (x.tb ta p hp).1) (fun _ z => z) s⟩ w2 ⟨D, vs, rfl, upd_same, t.imp fun _ _ g => Ra.st s g⟩
theorem SN.se {te : TE} {m : Γ → M (List α)} (h : SN μ E Ra te m) : SE μ E (rLs Ra) te m := fun k F H σ ρ c Q w e q => h k F H σ ρ c Q w e (wp_imp q fun _ _ z => VN.of z)
theorem OpN.os {r : R2} {mf : α → β → M (List γ)} (h : OpN μ r Ra Rb R mf) : OpS μ r Ra Rb (rLs R) mf := fun k F H c x y a b Q w p q z => h k F H c x y a b Q w p q (wp_imp z fun _ _ z => VN.of z)
theorem e_var {i : Nat} {g : Γ → α} (h : GetS E i (sVal Ra) g) : SE μ E Ra (tVar i) fun ρ => .ret (g ρ) := fun k F H σ ρ c Q w e q => by
  obtain ⟨o, h1, v, rfl, r⟩ := h.get e.r
  exact ⟨v, h1, q v F H (ExtX.refl w.sub) w r⟩
theorem e_c {v : V} {a : α} (h : ∀ F, Ra.r F v a) : SE μ E Ra (tC v) fun _ => .ret a := fun k F H σ ρ c Q w e q => q v F H (ExtX.refl w.sub) w (h F)
theorem e_int {i : Int} : SE μ E rInt (tC (.int i)) fun _ => .ret i := e_c fun _ => rfl
theorem e_bl {b : Bool} : SE μ E rBl (tC (.bl b)) fun _ => .ret b := e_c fun _ => rfl
theorem e_str {x : Str} : SE μ E rStr (tC (.str x)) fun _ => .ret x := e_c fun _ => rfl
theorem e_non : SE μ E rNon (tC .non) fun _ => .ret () := e_c fun _ => rfl
theorem e_op {r : R2} {ta tb : TE} {ma : Γ → M α} {mb : Γ → M β} {mf : α → β → M γ} (ho : OpS μ r Ra Rb R mf) (ha : SE μ E Ra ta ma) (hb : SE μ E Rb tb mb) :
    SE μ E R (tOp r ta tb) fun ρ => (ma ρ).bind fun a => (mb ρ).bind fun b => mf a b := fun k F H σ ρ c Q w e h =>
  ha k F H σ ρ c _ w e (wp_imp h fun a c1 q v F1 H1 x1 w1 r1 => hb k F1 H1 σ ρ c1 _ w1 (e.step x1) (wp_imp q fun b c2 q v2 F2 H2 x2 w2 r2 =>
    ho k F2 H2 c2 v v2 a b Q w2 (Ra.st x2.fz r1) r2 (wp_imp q fun _ _ z => VP.ext (x1.trans x2) z)))
theorem n_op {r : R2} {ta tb : TE} {ma : Γ → M α} {mb : Γ → M β} {mf : α → β → M (List γ)} (ho : OpN μ r Ra Rb R mf) (ha : SE μ E Ra ta ma) (hb : SE μ E Rb tb mb) :
    SN μ E R (tOp r ta tb) fun ρ => (ma ρ).bind fun a => (mb ρ).bind fun b => mf a b := fun k F H σ ρ c Q w e h =>
  ha k F H σ ρ c _ w e (wp_imp h fun a c1 q v F1 H1 x1 w1 r1 => hb k F1 H1 σ ρ c1 _ w1 (e.step x1) (wp_imp q fun b c2 q v2 F2 H2 x2 w2 r2 =>
    ho k F2 H2 c2 v v2 a b Q w2 (Ra.st x2.fz r1) r2 (wp_imp q fun _ _ z => VN.ext (x1.trans x2) z)))
theorem e_un {r : V → Hp → VK → Prop} {ta : TE} {ma : Γ → M α} {mf : α → M γ} (ho : UnS μ r Ra R mf) (ha : SE μ E Ra ta ma) :
    SE μ E R (tUn r ta) fun ρ => (ma ρ).bind mf := fun k F H σ ρ c Q w e h =>
  ha k F H σ ρ c _ w e (wp_imp h fun a c1 q v F1 H1 x1 w1 r1 => ho k F1 H1 c1 v a Q w1 r1 (wp_imp q fun _ _ z => VP.ext x1 z))
theorem o_ii {g : Int → Int → V} {f : Int → Int → Int} (h : ∀ i j, g i j = .int (f i j)) : OpS μ (rI0 g) rInt rInt rInt fun i j => .ret (f i j) := fun k F H c x y i j Q w hx hy q => ⟨i, j, hx, hy, q _ F H (ExtX.refl w.sub) w (h i j)⟩
theorem o_ib {g : Int → Int → V} {f : Int → Int → Bool} (h : ∀ i j, g i j = .bl (f i j)) : OpS μ (rI0 g) rInt rInt rBl fun i j => .ret (f i j) := fun k F H c x y i j Q w hx hy q => ⟨i, j, hx, hy, q _ F H (ExtX.refl w.sub) w (h i j)⟩
theorem o_iiC {C : Int → Int → Prop} {g : Int → Int → V} {f : Int → Int → Int} (h : ∀ i j, g i j = .int (f i j)) : OpS μ (rI C g) rInt rInt rInt fun i j => .need (C i j) (.ret (f i j)) := fun k F H c x y i j Q w hx hy q => ⟨i, j, hx, hy, q.1, q.2 _ F H (ExtX.refl w.sub) w (h i j)⟩
theorem u_ii {g : Int → V} {f : Int → Int} (h : ∀ i, g i = .int (f i)) : UnS μ (rU g) rInt rInt fun i => .ret (f i) := fun k F H c x i Q w hx q => ⟨i, hx, q _ F H (ExtX.refl w.sub) w (h i)⟩
structure ScR (R : Rp α) [DecidableEq α] : Prop where
  scal : ∀ {F F' : Hp} {x y : V} {a b : α}, R.r F x a → R.r F' y b → L2.scal x y = true ∧ decide (x = y) = decide (a = b)
theorem sc_int : ScR rInt := ⟨fun {_ _ _ _ a b} h k => by subst h k; exact ⟨rfl, by by_cases c : a = b; (· rw [c]; simp); (· rw [decide_eq_false c, decide_eq_false fun z => c (V.int.inj z)])⟩⟩
theorem sc_str : ScR rStr := ⟨fun {_ _ _ _ a b} h k => by subst h k; exact ⟨rfl, by by_cases c : a = b; (· rw [c]; simp); (· rw [decide_eq_false c, decide_eq_false fun z => c (V.str.inj z)])⟩⟩
theorem o_eq [DecidableEq α] (s : ScR Ra) : OpS μ rEq Ra Ra rBl fun a b => .ret (decide (a = b)) := fun k F H c x y a b Q w hx hy q => by
  obtain ⟨h1, h2⟩ := s.scal hx hy
  exact ⟨h1, q _ F H (ExtX.refl w.sub) w (by rw [h2]; rfl)⟩
theorem o_ne [DecidableEq α] (s : ScR Ra) : OpS μ rNe Ra Ra rBl fun a b => .ret (!decide (a = b)) := fun k F H c x y a b Q w hx hy q => by
  obtain ⟨h1, h2⟩ := s.scal hx hy
  exact ⟨h1, q _ F H (ExtX.refl w.sub) w (by rw [h2]; rfl)⟩
structure DpR (K : PySem.W.Frag) (R : Rp α) (d : α → PyData) (n : Nat) : Prop where
  dp : ∀ {F : Hp} {v : V} {a : α}, R.r F v a → Dp K F v (d a)
  deep : ∀ a, (d a).depth ≤ n
theorem shaped_of {d : PyData} {n : Nat} (h : d.depth ≤ n) (hn : n ≤ 64) (l : d.canLay0 = true) : SeqAt.shaped d = true := by
  unfold SeqAt.shaped
  rw [l, decide_eq_true (Nat.le_trans h hn)]; rfl
mutual
theorem dp_same {K : PySem.W.Frag} {F H : Hp} (s : Same F H) : ∀ (d : PyData) (v : V), Dp K F v d → Dp K H v d
  | _, _, .non => .non
  | _, _, .bl b => .bl b
  | _, _, .int i => .int i
  | _, _, .str x => .str x
  | _, _, .lst h t => .lst (s.seq h) (dps_same s _ _ t)
  | _, _, .tup h t => .tup (same_seqT s h) (dps_same s _ _ t)
theorem dps_same {K : PySem.W.Frag} {F H : Hp} (s : Same F H) : ∀ (ds : List PyData) (vs : List V), DpAll K F vs ds → DpAll K H vs ds
  | _, _, .nil => .nil
  | _, _, .cons h t => .cons (dp_same s _ _ h) (dps_same s _ _ t)
end
theorem Dp.same {K : PySem.W.Frag} {F H : Hp} {v : V} {d : PyData} (s : Same F H) (h : Dp K F v d) : Dp K H v d := dp_same s d v h
theorem o_eqD {K : PySem.W.Frag} {da : α → PyData} {db : β → PyData} {i j : Nat} (hA : DpR K Ra da i) (hB : DpR K Rb db j) (hi : i ≤ 64 := by decide) (hj : j ≤ 64 := by decide) : OpS μ (rEqD K) Ra Rb rBl fun a b => .need ((da a).canLay0 = true ∧ (db b).canLay0 = true) (.ret (PyData.eqv (da a) (db b))) := fun k F H c x y a b Q w hx hy q =>
  ⟨_, _, Dp.same w.sub (hA.dp hx), Dp.same w.sub (hB.dp hy), shaped_of (hA.deep a) hi q.1.1, shaped_of (hB.deep b) hj q.1.2, q.2 _ F H (ExtX.refl w.sub) w rfl⟩
theorem o_neD {K : PySem.W.Frag} {da : α → PyData} {db : β → PyData} {i j : Nat} (hA : DpR K Ra da i) (hB : DpR K Rb db j) (hi : i ≤ 64 := by decide) (hj : j ≤ 64 := by decide) : OpS μ (rNeD K) Ra Rb rBl fun a b => .need ((da a).canLay0 = true ∧ (db b).canLay0 = true) (.ret (!PyData.eqv (da a) (db b))) := fun k F H c x y a b Q w hx hy q =>
  ⟨_, _, Dp.same w.sub (hA.dp hx), Dp.same w.sub (hB.dp hy), shaped_of (hA.deep a) hi q.1.1, shaped_of (hB.deep b) hj q.1.2, q.2 _ F H (ExtX.refl w.sub) w rfl⟩
theorem t_of {te : TE} {m : Γ → M Bool} (h : SE μ E rBl te m) : ST μ E (tTest te) m := fun k F H σ ρ c Q w e q => h k F H σ ρ c _ w e (wp_imp q fun b _ z v F' H' x w' r => ⟨b, r, z F' H' x w'⟩)
theorem t_b {te : TE} {m : Γ → M Bool} (h : SE μ E rBl te m) : ST μ E (tB te) m := fun k F H σ ρ c Q w e q => h k F H σ ρ c _ w e (wp_imp q fun b _ z v F' H' x w' r => ⟨b, r, z F' H' x w'⟩)
theorem BP.ext {k : Cn} {F H F1 H1 : Hp} {Q : Bool → Hp → Prop} {b : Bool} {c : Nat} (x : ExtX k.p F H F1 H1) (h : BP k F H Q b c) : BP k F1 H1 Q b c := fun F' H' y w => h F' H' (x.trans y) w
theorem t_not {tt : TT} {m : Γ → M Bool} (h : ST μ E tt m) : ST μ E (tNot tt) fun ρ => (m ρ).bind fun b => .ret (!b) := fun k F H σ ρ c Q w e q => h k F H σ ρ c _ w e (wp_imp q fun _ _ z F' H' x w' => z F' H' x w')
theorem t_and {tt tu : TT} {m n : Γ → M Bool} (h : ST μ E tt m) (h' : ST μ E tu n) : ST μ E (tAnd tt tu) fun ρ => (m ρ).bind fun b => .ifb b (n ρ) (.ret false) := fun k F H σ ρ c Q w e q => h k F H σ ρ c _ w e (wp_imp q fun b c1 z F' H' x w' => by
  cases b with
  | true => exact h' k F' H' σ ρ c1 Q w' (e.step x) (wp_imp z fun _ _ z => BP.ext x z)
  | false => exact z F' H' x w')
theorem t_or {tt tu : TT} {m n : Γ → M Bool} (h : ST μ E tt m) (h' : ST μ E tu n) : ST μ E (tOr tt tu) fun ρ => (m ρ).bind fun b => .ifb b (.ret true) (n ρ) := fun k F H σ ρ c Q w e q => h k F H σ ρ c _ w e (wp_imp q fun b c1 z F' H' x w' => by
  cases b with
  | false => exact h' k F' H' σ ρ c1 Q w' (e.step x) (wp_imp z fun _ _ z => BP.ext x z)
  | true => exact z F' H' x w')
theorem e_if {tt : TT} {ta tb : TE} {mt : Γ → M Bool} {ma mb : Γ → M α} (ht : ST μ E tt mt) (ha : SE μ E Ra ta ma) (hb : SE μ E Ra tb mb) : SE μ E Ra (tIf tt ta tb) fun ρ => (mt ρ).bind fun b => .ifb b (ma ρ) (mb ρ) := fun k F H σ ρ c Q w e q =>
  ht k F H σ ρ c _ w e (wp_imp q fun b c1 z F' H' x w' => by
    cases b with
    | true => exact ha k F' H' σ ρ c1 Q w' (e.step x) (wp_imp z fun _ _ z => VP.ext x z)
    | false => exact hb k F' H' σ ρ c1 Q w' (e.step x) (wp_imp z fun _ _ z => VP.ext x z))
theorem e_and {ta tb : TE} {m n : Γ → M Bool} (h : SE μ E rBl ta m) (h' : SE μ E rBl tb n) : SE μ E rBl (tAndV ta tb) fun ρ => (m ρ).bind fun b => .ifb b (n ρ) (.ret false) := fun k F H σ ρ c Q w e q => h k F H σ ρ c _ w e (wp_imp q fun b c1 z v F' H' x w' r => by
  refine ⟨b, r, ?_⟩
  cases b with
  | true => exact h' k F' H' σ ρ c1 Q w' (e.step x) (wp_imp z fun _ _ z => VP.ext x z)
  | false => exact z _ F' H' x w' rfl)
theorem e_chain {r r' : R2} {ta tb tc : TE} {ma : Γ → M α} {mb : Γ → M β} {mc : Γ → M γ} {f : α → β → M Bool} {f' : β → γ → M Bool} (ho : OpS μ r Ra Rb rBl f) (ho' : OpS μ r' Rb R rBl f') (ha : SE μ E Ra ta ma) (hb : SE μ E Rb tb mb) (hc : SE μ E R tc mc) :
    SE μ E rBl (tChain r r' ta tb tc) fun ρ => (ma ρ).bind fun a => (mb ρ).bind fun b => (f a b).bind fun k => .ifb k ((mc ρ).bind fun d => f' b d) (.ret false) := fun k F H σ ρ c Q w e h =>
  ha k F H σ ρ c _ w e (wp_imp h fun a c1 q v F1 H1 x1 w1 r1 => hb k F1 H1 σ ρ c1 _ w1 (e.step x1) (wp_imp q fun b c2 q v2 F2 H2 x2 w2 r2 =>
    ho k F2 H2 c2 v v2 a b _ w2 (Ra.st x2.fz r1) r2 (wp_imp q fun t c3 q v3 F3 H3 x3 w3 r3 => by
      refine ⟨t, r3, ?_⟩
      have x13 := (x1.trans x2).trans x3
      cases t with
      | true => exact hc k F3 H3 σ ρ c3 _ w3 (e.step x13) (wp_imp q fun d c4 q v4 F4 H4 x4 w4 r4 => ho' k F4 H4 c4 v2 v4 b d Q w4 (Rb.st (x3.fz.trans x4.fz) r2) r4 (wp_imp q fun _ _ z => VP.ext (x13.trans x4) z))
      | false => exact q _ F3 H3 x13 w3 rfl)))
theorem AP.ext {S : RA α} {k : Cn} {F H F1 H1 : Hp} {Q : List V → Hp → Prop} {b : α} {c : Nat} (x : ExtX k.p F H F1 H1) (h : AP k F H S Q b c) : AP k F1 H1 S Q b c := fun vs F' H' y w r => h vs F' H' (x.trans y) w r
theorem a_nil : SA μ E aNil tNil fun _ => .ret () := fun k F H σ ρ c Q w e q => q [] F H (ExtX.refl w.sub) w rfl
theorem a_cons {S : RA β} {ta : TE} {tb : TA} {ma : Γ → M α} {mb : Γ → M β} (ha : SE μ E Ra ta ma) (hb : SA μ E S tb mb) : SA μ E (aCons Ra S) (tCons ta tb) fun ρ => (ma ρ).bind fun a => (mb ρ).bind fun b => .ret (a, b) := fun k F H σ ρ c Q w e h =>
  ha k F H σ ρ c _ w e (wp_imp h fun a c1 q v F1 H1 x1 w1 r1 => hb k F1 H1 σ ρ c1 _ w1 (e.step x1) (wp_imp q fun b c2 q vs F2 H2 x2 w2 r2 => q _ F2 H2 (x1.trans x2) w2 ⟨v, vs, rfl, Ra.st x2.fz r1, r2⟩))
theorem le_n (n : Nat) (h : n ≤ 1000 := by decide) : n ≤ sizeLine := by rw [sizeLine_eq]; omega
theorem e_tup {K : PySem.W.Frag} {S : RA α} {ta : TA} {ma : Γ → M α} (ha : SA μ E S ta ma) (hn : S.n ≤ sizeLine) : SE μ E (rTx K S) (tTup ta) ma := fun k F H σ ρ c Q w e h =>
  ha k F H σ ρ c _ w e (wp_imp h fun a c1 q vs F1 H1 x1 w1 r1 => ⟨by rw [S.len r1]; exact hn, fun p n => by
    have x2 := ExtX.new (p := k.p) w1.sub n (.tup vs)
    exact q _ _ _ (x1.trans x2) (w1.new n _) ⟨p, vs, rfl, .of upd_same, S.st x2.fz r1⟩⟩)
structure HomR (R : Rp α) (S : RA β) (f : β → List α) : Prop where
  all : ∀ {F : Hp} {vs : List V} {b : β}, S.r F vs b → All2 (R.r F) vs (f b)
theorem hom_nil : HomR Ra aNil fun _ => [] := ⟨fun h => by subst h; exact .nil⟩
theorem hom_cons {S : RA β} {f : β → List α} (h : HomR Ra S f) : HomR Ra (aCons Ra S) fun b => b.1 :: f b.2 := ⟨fun ⟨v, ws, e, r, t⟩ => by subst e; exact .cons r (h.all t)⟩
theorem n_lst {S : RA β} {f : β → List α} {ta : TA} {ma : Γ → M β} (ho : HomR Ra S f) (ha : SA μ E S ta ma) (hn : S.n ≤ sizeLine) : SN μ E Ra (tLst ta) fun ρ => (ma ρ).bind fun b => .ret (f b) := fun k F H σ ρ c Q w e h =>
  ha k F H σ ρ c _ w e (wp_imp h fun a c1 q vs F1 H1 x1 w1 r1 => ⟨by rw [S.len r1]; exact hn, fun p n => by
    have x2 := ExtX.own (p := k.p) w1.sub n (.lst vs)
    have nH : H p = none := by
      cases z : H p with
      | none => rfl
      | some o => exact absurd n (x1.on p (by rw [z]; simp))
    exact q p vs _ _ (x1.trans x2) (w1.own n _) nH (w.h0 nH) upd_same (w1.sub.free n) (ho.all r1)⟩)
theorem o_ixL {K : PySem.W.Frag} : OpS μ (rIxL K) (rLs Ra) rInt Ra fun xs i => .the (atI xs i) := fun k F H c x y xs i Q w ⟨p, vs, ex, hp, al⟩ hy ⟨a, ea, q⟩ => by
  subst ex
  obtain ⟨v, hv, r⟩ : ∃ v, atI vs i = some v ∧ Ra.r F v a := by
    unfold atI at ea ⊢
    rw [al.len]
    cases z : ixN xs.length i with
    | none => rw [z] at ea; cases ea
    | some j => rw [z] at ea; exact al.get ea
  exact ⟨p, vs, i, v, rfl, hy, .of (w.sub _ _ hp), hv, q v F H (ExtX.refl w.sub) w r⟩
structure RGet (S : RA α) (i : Nat) (R : Rp β) (g : α → β) : Prop where
  get : ∀ {F : Hp} {vs : List V} {a : α}, S.r F vs a → ∃ v, vs[i]? = some v ∧ R.r F v (g a)
theorem rget0 {S : RA β} : RGet (aCons Ra S) 0 Ra (·.1) := ⟨fun ⟨v, ws, e, r, _⟩ => ⟨v, by rw [e]; rfl, r⟩⟩
theorem rgetS {S : RA β} {i : Nat} {R : Rp γ} {g : β → γ} (h : RGet S i R g) : RGet (aCons Ra S) (i + 1) R (fun a => g a.2) := ⟨fun ⟨v, ws, e, _, t⟩ => by obtain ⟨u, q, r⟩ := h.get t; exact ⟨u, by rw [e]; simpa using q, r⟩⟩
theorem e_ixX {K : PySem.W.Frag} {S : RA α} {i : Nat} {g : α → β} {ta : TE} {ma : Γ → M α} (hg : RGet S i Rb g) (ha : SE μ E (rTx K S) ta ma) : SE μ E Rb (tOp (rIxT K) ta (tC (.int (i : Int)))) fun ρ => (ma ρ).bind fun a => .ret (g a) := fun k F H σ ρ c Q w e h =>
  ha k F H σ ρ c _ w e (wp_imp h fun a c1 q v F1 H1 x1 w1 ⟨p, vs, ex, hp, r⟩ => by
    obtain ⟨u, hu, ru⟩ := hg.get r
    exact ⟨p, vs, _, u, ex, rfl, same_seqT w1.sub hp, atI_nat hu, q u F1 H1 x1 w1 ru⟩)
theorem e_ca {r : List V → Hp → VK → Prop} {S : RA α} {ta : TA} {ma : Γ → M α} {mf : α → M γ} (hc : CaS μ r S R mf) (ha : SA μ E S ta ma) : SE μ E R (tCB r ta) fun ρ => (ma ρ).bind mf := fun k F H σ ρ c Q w e h =>
  ha k F H σ ρ c _ w e (wp_imp h fun a c1 q vs F1 H1 x1 w1 r1 => hc k F1 H1 c1 vs a Q w1 r1 (wp_imp q fun _ _ z => VP.ext x1 z))
def spOf (S : RA α) (R : Rp β) (m : α → M β) : Sp := fun vs H Q _ => ∃ F a, Same F H ∧ S.r F vs a ∧
  (m a).wp 0 (fun b _ => ∀ v F' H', ExtX none F H F' H' → R.r F' v b → Q v H') (fun _ => False)
def spOfD (S : RA α) (R : Rp β) (m : α → M β) : Sp := fun vs H Q _ => ∃ F p ws a c, vs = .ref p :: ws ∧ Same F H ∧ F p = none ∧ Dice p H c ∧ S.r F ws a ∧
  (m a).wp c (fun b c' => ∀ v F' H', ExtX (some p) F H F' H' → F' p = none → Dice p H' c' → R.r F' v b → Q v H') (fun _ => False)
theorem XP.no {k : Cn} {F H : Hp} {c : Nat} (w : Wo k F H c) {e : Er} (h : XP md0 k e) : False := h .none none F H w.ext trivial
theorem e_call {S : RA α} {ta : TA} {ma : Γ → M α} {m : α → M γ} (ha : SA md0 E S ta ma) : SE md0 E R (tCall (spOf S R m) [] E0 ta) fun ρ => (ma ρ).bind fun a => (m a).still := fun k F H σ ρ c Q w e h =>
  ha k F H σ ρ c _ w e (wp_imp h fun a c1 q vs F1 H1 x1 w1 r1 => by
    show spOf S R m (vs ++ []) H1 Q E0
    rw [List.append_nil]
    exact ⟨F1, a, w1.sub, r1, (m a).mono 0 (fun b _ z v F' H' x r => z v F' H' (x1.trans (w1.call x).1) (w1.call x).2 r) (fun _ z => XP.no w1 z) q⟩)
theorem Wo.callD {k : Cn} {F H F' H' : Hp} {c c' : Nat} {p : Addr} (w : Wo k F H c) (e : k.p = some p) (x : ExtX (some p) F H F' H') (f : F' p = none) (d : Dice p H' c') : ExtX k.p F H F' H' ∧ Wo k F' H' c' := by
  rw [← e] at x
  refine ⟨x, x.sub, w.ext.trans x, fun a ea => ?_⟩
  obtain rfl : p = a := Option.some.inj (e.symm.trans ea)
  exact ⟨f, (w.dice p e).2.1, d⟩
theorem e_callD {S : RA α} {ta : TA} {ma : Γ → M α} {m : α → M γ} {i : Nat} {g : Γ → Unit} (hi : GetS E i sDice g) (ha : SA md0 E S ta ma) : SE md0 E R (tCall (spOfD S R m) [] E0 (tCons (tVar i) ta)) fun ρ => (ma ρ).bind m := fun k F H σ ρ c Q w e h => by
  obtain ⟨o, h1, p, rfl, hp⟩ := hi.get e.r
  refine ⟨.ref p, h1, ha k F H σ ρ c _ w e (wp_imp h fun a c1 q vs F1 H1 x1 w1 r1 => ?_)⟩
  show spOfD S R m ((.ref p :: vs) ++ []) H1 Q E0
  rw [List.append_nil]
  obtain ⟨d1, _, d2⟩ := w1.dice p hp
  exact ⟨F1, p, vs, a, c1, rfl, w1.sub, d1, d2, r1, (m a).mono c1 (fun b c' z v F' H' x f d r => z v F' H' (x1.trans (w1.callD hp x f d).1) (w1.callD hp x f d).2 r)
    (fun _ z => XP.no w1 z) q⟩
end
inductive Ct (Γ Δ β : Type) where
  | nx (ρ : Γ)
  | rt (b : β)
  | bk (d : Δ)
  | ct (d : Δ)
namespace M
variable {Γ Γ' Δ α β : Type}
def thnK (f : Γ → M (Ct Γ' Δ β)) : Ct Γ Δ β → M (Ct Γ' Δ β)
  | .nx ρ => f ρ
  | .rt b => .ret (.rt b)
  | .bk d => .ret (.bk d)
  | .ct d => .ret (.ct d)
def thn (m : M (Ct Γ Δ β)) (f : Γ → M (Ct Γ' Δ β)) : M (Ct Γ' Δ β) := m.bind (thnK f)
def forK (f : Γ → M (Ct Γ Δ β)) : Ct Γ Γ β → M (Ct Γ Δ β)
  | .nx ρ => f ρ
  | .ct ρ => f ρ
  | .bk ρ => .ret (.nx ρ)
  | .rt b => .ret (.rt b)
def forM0 : List α → (α → Γ → M (Ct Γ Γ β)) → Γ → M (Ct Γ Δ β)
  | [], _, ρ => .ret (.nx ρ)
  | x :: xs, f, ρ => (f x ρ).bind (forK fun ρ' => forM0 xs f ρ')
theorem forM_ex {Γ Δ α β : Type} : ∃ g : List α → (α → Γ → M (Ct Γ Γ β)) → Γ → M (Ct Γ Δ β), (∀ f ρ, g [] f ρ = .ret (.nx ρ)) ∧ ∀ x xs f ρ, g (x :: xs) f ρ = (f x ρ).bind (forK fun ρ' => g xs f ρ') := ⟨forM0, fun _ _ => rfl, fun _ _ _ _ => rfl⟩
noncomputable def forM : List α → (α → Γ → M (Ct Γ Γ β)) → Γ → M (Ct Γ Δ β) := Classical.choose forM_ex
theorem forM_nil {f : α → Γ → M (Ct Γ Γ β)} {ρ : Γ} : forM (Δ := Δ) [] f ρ = .ret (.nx ρ) := (Classical.choose_spec (forM_ex (Γ := Γ) (Δ := Δ) (α := α) (β := β))).1 f ρ
theorem forM_cons {x : α} {xs : List α} {f : α → Γ → M (Ct Γ Γ β)} {ρ : Γ} : forM (Δ := Δ) (x :: xs) f ρ = (f x ρ).bind (forK fun ρ' => forM xs f ρ') := (Classical.choose_spec (forM_ex (Γ := Γ) (Δ := Δ) (α := α) (β := β))).2 x xs f ρ
def none {α : Type} : M α := ⟨fun _ _ _ => False, fun _ _ _ _ _ _ _ k => k⟩
def lcM0 : List α → (α → M (Option β)) → M (List β)
  | [], _ => .ret []
  | x :: xs, f => (f x).bind fun o => (lcM0 xs f).bind fun ys => .ret (o.toList ++ ys)
theorem lcM_ex {α β : Type} : ∃ g : List α → (α → M (Option β)) → M (List β), (∀ f, g [] f = .ret []) ∧ ∀ x xs f, g (x :: xs) f = (f x).bind fun o => (g xs f).bind fun ys => .ret (o.toList ++ ys) := ⟨lcM0, fun _ => rfl, fun _ _ _ => rfl⟩
noncomputable def lcM : List α → (α → M (Option β)) → M (List β) := Classical.choose lcM_ex
theorem lcM_nil {f : α → M (Option β)} : lcM [] f = .ret [] := (Classical.choose_spec (lcM_ex (α := α) (β := β))).1 f
theorem lcM_cons {x : α} {xs : List α} {f : α → M (Option β)} : lcM (x :: xs) f = (f x).bind fun o => (lcM xs f).bind fun ys => .ret (o.toList ++ ys) := (Classical.choose_spec (lcM_ex (α := α) (β := β))).2 x xs f
def finK : Ct Γ Unit β → M β
  | .rt b => .ret b
  | _ => M.none
def finNK : Ct Γ Unit Unit → M Unit
  | .rt b => .ret b
  | .nx _ => .ret ()
  | _ => M.none
def fin (m : M (Ct Γ Unit β)) : M β := m.bind finK
def finN (m : M (Ct Γ Unit Unit)) : M Unit := m.bind finNK
end M
def SP {Γ Δ β : Type} (k : Cn) (F0 : Hp) (E' : EV Γ) (El : EV Δ) (R : Rp β) (D : Ends) : Ct Γ Δ β → Nat → Prop := fun t c' => match t with
  | .nx ρ => ∀ F H σ, Same F0 F → Wo k F H c' → EI k E' F H σ ρ → D.nx σ H
  | .rt b => ∀ v F H, Wo k F H c' → R.r F v b → D.rt v H
  | .bk d => ∀ F H σ, Same F0 F → Wo k F H c' → EI k El F H σ d → D.bk σ H
  | .ct d => ∀ F H σ, Same F0 F → Wo k F H c' → EI k El F H σ d → D.ct σ H
theorem SP.fz {Γ Δ β : Type} {k : Cn} {F0 F1 : Hp} {E' : EV Γ} {El : EV Δ} {R : Rp β} {D : Ends} {t : Ct Γ Δ β} {c : Nat} (s : Same F0 F1) (h : SP k F0 E' El R D t c) : SP k F1 E' El R D t c := by
  cases t with
  | nx ρ => exact fun F H σ z => h F H σ (s.trans z)
  | rt b => exact h
  | bk ρ => exact fun F H σ z => h F H σ (s.trans z)
  | ct ρ => exact fun F H σ z => h F H σ (s.trans z)
def SS {Γ Γ' Δ β : Type} (μ : Md) (E : EV Γ) (E' : EV Γ') (El : EV Δ) (R : Rp β) (ts : TS) (m : Γ → M (Ct Γ' Δ β)) : Prop :=
  ∀ (k : Cn) (F H : Hp) (σ : L2.St) (ρ : Γ) (c : Nat) (D : Ends), Wo k F H c → EI k E F H σ ρ → (m ρ).wp c (SP k F E' El R D) (XP μ k) → ts D σ H
def SG {Γ Γ' α : Type} (E : EV Γ) (R : Rp α) (g : TG) (E' : EV Γ') (put : Γ → α → Γ') : Prop :=
  ∀ (k : Cn) (F H : Hp) (σ : L2.St) (ρ : Γ) (c : Nat) (v : V) (a : α) (Q : L2.St → Hp → Prop), Wo k F H c → EI k E F H σ ρ → R.r F v a → (∀ σ', EI k E' F H σ' (put ρ a) → Q σ' H) → g v σ H Q
def SGs {Γ Γ' α : Type} (E : EV Γ) (S : RA α) (g : TGs) (E' : EV Γ') (put : Γ → α → Γ') : Prop :=
  ∀ (k : Cn) (F H : Hp) (σ : L2.St) (ρ : Γ) (c : Nat) (vs : List V) (a : α) (Q : L2.St → Hp → Prop), Wo k F H c → EI k E F H σ ρ → S.r F vs a → (∀ σ', EI k E' F H σ' (put ρ a) → Q σ' H) → g vs σ H Q
section
variable {Γ Γ' Γ'' Δ Δ' α β γ δ : Type} {μ : Md} {E : EV Γ} {E' : EV Γ'} {E'' : EV Γ''} {El : EV Δ} {El' : EV Δ'} {Ra : Rp α} {Rb : Rp β} {R : Rp γ}
theorem g_name {i : Nat} {put : Γ → α → Γ'} (h : PutS E i (sVal Ra) E' put) : SG E Ra (gName i) E' put := fun k F H σ ρ c v a Q w e r q =>
  q _ ⟨h.put e.r ⟨v, rfl, r⟩, h.nd e.nd fun _ z => nomatch z⟩
theorem gs_nil : SGs E aNil gNil E fun ρ _ => ρ := fun k F H σ ρ c vs a Q w e r q => ⟨r, q σ e⟩
theorem gs_cons {S : RA β} {g : TG} {gs : TGs} {put : Γ → α → Γ'} {put' : Γ' → β → Γ''} (h : SG E Ra g E' put) (hs : SGs E' S gs E'' put') : SGs E (aCons Ra S) (gCons g gs) E'' fun ρ a => put' (put ρ a.1) a.2 := fun k F H σ ρ c vs a Q w e ⟨v, ws, ev, r, t⟩ q =>
  ⟨v, ws, ev, h k F H σ ρ c v a.1 _ w e r fun σ' e' => hs k F H σ' _ c ws a.2 Q w e' t q⟩
theorem g_tup {K : PySem.W.Frag} {S : RA α} {n : Nat} {gs : TGs} {put : Γ → α → Γ'} (h : SGs E S gs E' put) (hn : S.n = n) : SG E (rTx K S) (gTup K n gs) E' put := fun k F H σ ρ c v a Q w e ⟨p, vs, ev, hp, r⟩ q =>
  ⟨p, vs, ev, same_seqT w.sub hp, (S.len r).trans hn, h k F H σ ρ c vs a Q w e r q⟩
theorem s_asg {te : TE} {m : Γ → M α} {g : TG} {put : Γ → α → Γ'} (he : SE μ E Ra te m) (hg : SG E Ra g E' put) : SS μ E E' El R (tAsg te g) fun ρ => (m ρ).bind fun a => .ret (.nx (put ρ a)) := fun k F H σ ρ c D w e h =>
  he k F H σ ρ c _ w e (wp_imp h fun a c1 q v F1 H1 x1 w1 r1 => hg k F1 H1 σ ρ c1 v a _ w1 (e.step x1) r1 fun σ' e' => q F1 H1 σ' x1.fz w1 e')
theorem s_nil : SS μ E E El R tNext fun ρ => .ret (.nx ρ) := fun k F H σ ρ c D w e h => h F H σ (Same.refl F) w e
theorem s_brk : SS μ E E' E R tBreak fun ρ => .ret (.bk ρ) := fun k F H σ ρ c D w e h => h F H σ (Same.refl F) w e
theorem s_seq {t u : TS} {m : Γ → M (Ct Γ' Δ γ)} {n : Γ' → M (Ct Γ'' Δ γ)} (h : SS μ E E' El R t m) (h' : SS μ E' E'' El R u n) : SS μ E E'' El R (tSeq t u) fun ρ => (m ρ).thn n := fun k F H σ ρ c D w e q =>
  h k F H σ ρ c _ w e (wp_imp q fun t c1 z => by
    cases t with
    | nx ρ' => exact fun F1 H1 σ1 s1 w1 e1 => h' k F1 H1 σ1 ρ' c1 D w1 e1 (wp_imp z fun _ _ z => z.fz s1)
    | rt b => exact z
    | bk d => exact z
    | ct d => exact z)
theorem s_if {tt : TT} {t u : TS} {mt : Γ → M Bool} {m n : Γ → M (Ct Γ' Δ γ)} (ht : ST μ E tt mt) (h : SS μ E E' El R t m) (h' : SS μ E E' El R u n) : SS μ E E' El R (tIfS tt t u) fun ρ => (mt ρ).bind fun b => .ifb b (m ρ) (n ρ) := fun k F H σ ρ c D w e q =>
  ht k F H σ ρ c _ w e (wp_imp q fun b c1 z F1 H1 x1 w1 => by
    cases b with
    | true => exact h k F1 H1 σ ρ c1 D w1 (e.step x1) (wp_imp z fun _ _ z => z.fz x1.fz)
    | false => exact h' k F1 H1 σ ρ c1 D w1 (e.step x1) (wp_imp z fun _ _ z => z.fz x1.fz))
theorem s_ret {te : TE} {m : Γ → M γ} (he : SE μ E R te m) : SS μ E E' El R (tRet te) fun ρ => (m ρ).bind fun a => .ret (.rt a) := fun k F H σ ρ c D w e h =>
  he k F H σ ρ c _ w e (wp_imp h fun a c1 q v F1 H1 x1 w1 r1 => q v F1 H1 w1 r1)
def Wk (E : EV Γ) (E' : EV Γ') (f : Γ → Γ') : Prop := ∀ (k : Cn) (F H : Hp) (σ : L2.St) (ρ : Γ) (c : Nat), Wo k F H c → EI k E F H σ ρ → ∃ F', Same F F' ∧ Wo k F' H c ∧ EI k E' F' H σ (f ρ)
theorem s_pre {t : TS} {f : Γ → Γ'} {m : Γ' → M (Ct Γ'' Δ γ)} (w : Wk E E' f) (h : SS μ E' E'' El R t m) : SS μ E E'' El R t fun ρ => m (f ρ) := fun k F H σ ρ c D wo e q => by
  obtain ⟨F', s', w', e'⟩ := w k F H σ ρ c wo e
  exact h k F' H σ (f ρ) c D w' e' (wp_imp q fun _ _ z => z.fz s')
theorem s_post {t : TS} {f : Γ' → Γ''} {m : Γ → M (Ct Γ' Δ γ)} (h : SS μ E E' El R t m) (wk : Wk E' E'' f) : SS μ E E'' El R t fun ρ => (m ρ).thn fun ρ' => .ret (.nx (f ρ')) := fun k F H σ ρ c D w e q =>
  h k F H σ ρ c D w e (wp_imp q fun t c1 z => by
    cases t with
    | nx ρ' =>
      intro F1 H1 σ1 s1 w1 e1
      obtain ⟨F', s', w', e'⟩ := wk k F1 H1 σ1 ρ' c1 w1 e1
      exact z F' H1 σ1 (s1.trans s') w' e'
    | rt b => exact z
    | bk d => exact z
    | ct d => exact z)
structure Fg (E : EV Γ) (E' : EV Γ') (f : Γ → Γ') : Prop where
  r : ∀ {p : Option Addr} {H0 F H : Hp} {σ : L2.St} {ρ : Γ}, E.r p H0 F H σ ρ → E'.r p H0 F H σ (f ρ)
  ow : ∀ σ, (E'.owns σ).Sublist (E.owns σ)
theorem fg_nil : Fg eNil eNil id := ⟨id, fun _ => List.Sublist.refl _⟩
theorem fg_keep {S : SR α} {f : Γ → Γ'} (h : Fg E E' f) : Fg (eCons S E) (eCons S E') fun ρ => (ρ.1, f ρ.2) := ⟨fun ⟨o, τ, e, r, t⟩ => ⟨o, τ, e, r, h.r t⟩, fun σ => by
  cases σ with
  | nil => exact List.Sublist.refl _
  | cons o τ => exact List.Sublist.append (List.Sublist.refl _) (h.ow τ)⟩
theorem fg_un {S : SR α} {f : Γ → Γ'} (h : Fg E E' f) : Fg (eCons S E) (eCons sUn E') fun ρ => ((), f ρ.2) := ⟨fun ⟨o, τ, e, r, t⟩ => ⟨o, τ, e, trivial, h.r t⟩, fun σ => by
  cases σ with
  | nil => exact List.Sublist.refl _
  | cons o τ => exact (h.ow τ).trans (List.sublist_append_right _ _)⟩
theorem wk_fg {f : Γ → Γ'} (h : Fg E E' f) : Wk E E' f := fun k F H σ ρ c w e => ⟨F, Same.refl F, w, h.r e.r, e.nd.sublist (h.ow σ)⟩
structure FzS (E : EV Γ) (i : Nat) (R : Rp α) (E' : EV Γ') (f : Γ → Γ') : Prop where
  get : ∀ {p : Option Addr} {H0 F H : Hp} {σ : L2.St} {ρ : Γ}, E.r p H0 F H σ ρ → ∃ D vs, σ[i]? = some (some (.ref D)) ∧ H D = some (.lst vs) ∧ F D = none ∧ H0 D = none ∧ D ∈ E.owns σ
  put : ∀ {p : Option Addr} {H0 F H : Hp} {σ : L2.St} {ρ : Γ} {D : Addr} {vs : List V}, E.r p H0 F H σ ρ → (E.owns σ).Nodup → σ[i]? = some (some (.ref D)) → H D = some (.lst vs) → Same F (upd F D (.lst vs)) → E'.r p H0 (upd F D (.lst vs)) H σ (f ρ)
  ow : ∀ σ, (E'.owns σ).Sublist (E.owns σ)
theorem s_for {wi : TI} {g : TG} {tb : TS} {ml : Γ → M (List α)} {put : Γ → α → Γ'} {mb : Γ' → M (Ct Γ Γ γ)} (hi : SI μ E Ra wi ml) (hg : SG E Ra g E' put) (hb : SS μ E' E E R tb mb) :
    SS μ E E El R (tFor wi g tb) fun ρ => (ml ρ).bind fun xs => M.forM xs (fun a ρ => mb (put ρ a)) ρ := fun k F H σ ρ c D w e h =>
  hi k F H σ ρ c _ w e (wp_imp h fun xs c1 q J F1 H1 x1 w1 wk => by
    refine ⟨fun i n σ' H' => n = xs.length - i ∧ i ≤ xs.length ∧ ∃ F' ρ' c', Same F1 F' ∧ Wo k F' H' c' ∧ EI k E F' H' σ' ρ' ∧ (M.forM (Δ := Δ) (xs.drop i) (fun a ρ => mb (put ρ a)) ρ').wp c' (SP k F1 E El R D) (XP μ k),
      ⟨xs.length, by simp, Nat.zero_le _, F1, ρ, c1, Same.refl _, w1, e.step x1, wp_imp q fun _ _ z => z.fz x1.fz⟩, ?_⟩
    rintro i n σ' H' ⟨rfl, hi, F', ρ', c', sF, w', e', q'⟩
    obtain ⟨go, stop⟩ := wk i F' H' sF w'.sub
    by_cases hlt : i < xs.length
    · obtain ⟨g1, g2⟩ := go _ (List.getElem?_eq_getElem hlt)
      have ed : xs.drop i = xs[i] :: xs.drop (i + 1) := List.drop_eq_getElem_cons hlt
      rw [ed, M.forM_cons] at q'
      refine .inr ⟨g1, fun σ2 H2 => ∃ F2 ρ2 c2, Same F1 F2 ∧ Wo k F2 H2 c2 ∧ EI k E F2 H2 σ2 ρ2 ∧ (M.forM (Δ := Δ) (xs.drop (i + 1)) (fun a ρ => mb (put ρ a)) ρ2).wp c2 (SP k F1 E El R D) (XP μ k),
        fun σ2 H2 z => ⟨xs.length - (i + 1), by omega, rfl, hlt, z⟩, fun x H2 y => ?_⟩
      obtain ⟨F2, x2, r2⟩ := g2 x H2 y
      obtain ⟨x2', w2⟩ := w'.call x2
      have s12 : Same F1 F2 := sF.trans x2.fz
      refine hg k F2 H2 σ' ρ' c' x _ _ w2 (e'.step x2') r2 fun σ3 e3 => ?_
      refine hb k F2 H2 σ3 _ c' _ w2 e3 ((mb _).mono c' (fun t c3 z => ?_) (fun _ z => z) q')
      cases t with
      | nx ρ4 => exact fun F4 H4 σ4 s4 w4 e4 => ⟨F4, ρ4, c3, s12.trans s4, w4, e4, z⟩
      | ct ρ4 => exact fun F4 H4 σ4 s4 w4 e4 => ⟨F4, ρ4, c3, s12.trans s4, w4, e4, z⟩
      | bk ρ4 => exact fun F4 H4 σ4 s4 w4 e4 => z F4 H4 σ4 (s12.trans s4) w4 e4
      | rt b => exact fun v F4 H4 w4 r4 => z v F4 H4 w4 r4
    · have e0 : i = xs.length := by omega
      subst e0
      rw [List.drop_length, M.forM_nil] at q'
      exact .inl ⟨stop (Nat.le_refl _), q' F' H' σ' sF w' e'⟩)
theorem ExtX.mod {p : Option Addr} {F H F' H' : Hp} {D : Addr} {o : HO} (x : ExtX p F H F' H') (n : H D = none) (f : F' D = none) : ExtX p F H F' (upd H' D o) := by
  refine ⟨x.fz, fun b u e => ?_, fun b u np nt e => ?_, x.old, fun b nb => ?_, fun ta p hp => (x.tb ta p hp).go (x.tb ta p hp).1 (fun o z => by rw [upd_ne ((ta p hp).ne n)]; exact z) (Same.refl _)⟩
  · rw [upd_ne (ne_of_none e f)]; exact x.sub _ _ e
  · rw [upd_ne (ne_of_none e n)]; exact x.hpn b u np nt e
  · by_cases c : b = D
    · subst c; rw [upd_same]; simp
    · rw [upd_ne c]; exact x.on b nb
theorem Wo.mod {k : Cn} {F H : Hp} {c : Nat} {D : Addr} {o : HO} (w : Wo k F H c) (n : k.H0 D = none) (f : F D = none) : Wo k F (upd H D o) c := by
  have x := w.ext.mod (o := o) n f
  refine ⟨x.sub, x, fun a e => ?_⟩
  obtain ⟨h1, h2, h3⟩ := w.dice a e
  have ne : a ≠ D := fun z => by subst z; exact h2 n
  obtain ⟨d0, d1, d2, h, r⟩ := h3
  exact ⟨h1, h2, d0, d1, d2, by rw [upd_ne ne]; exact h, r⟩
def SGw (js : List Nat) (E : EV Γ) (R : Rp α) (g : TG) (E' : EV Γ') (put : Γ → α → Γ') : Prop :=
  ∀ (k : Cn) (F H : Hp) (σ : L2.St) (ρ : Γ) (c : Nat) (v : V) (a : α) (Q : L2.St → Hp → Prop), Wo k F H c → EI k E F H σ ρ → R.r F v a → (∀ σ', wipe σ' js = wipe σ js → EI k E' F H σ' (put ρ a) → Q σ' H) → g v (wipe σ js) H Q
theorem gw_name {j : Nat} {put : Γ → α → Γ'} (h : PutS E j (sVal Ra) E' put) : SGw [j] E Ra (gName j) E' put := fun k F H σ ρ c v a Q w e r q => by
  show Q ((σ.set j none).set j (some v)) H
  rw [List.set_set]
  refine q _ ?_ ⟨h.put e.r ⟨v, rfl, r⟩, h.nd e.nd fun _ z => nomatch z⟩
  show (σ.set j (some v)).set j none = σ.set j none
  rw [List.set_set]
theorem EI.upd {k : Cn} {F H : Hp} {σ : L2.St} {ρ : Γ} {D : Addr} {o : HO} (e : EI k E F H σ ρ) (n : D ∉ E.owns σ) (w : NwL H D) : EI k E F (L2.upd H D o) σ ρ := ⟨E.upd n w e.r, e.nd⟩
theorem t_yes : ST μ E tYes fun _ => .ret true := fun k F H σ ρ c Q w e q => q F H (ExtX.refl w.sub) w
theorem n_lc {wi : TI} {tt : TT} {te : TE} {js : List Nat} {ml : Γ → M (List α)} {put : Γ → α → Γ'} {mt : Γ' → M Bool} {me : Γ' → M β} {gg : TG} (hi : SI μ E Ra wi ml) (hg : SGw js E Ra gg E' put) (ht : ST μ E' tt mt) (he : SE μ E' Rb te me) :
    SN μ E Rb (tLc wi gg tt te js) fun ρ => (ml ρ).bind fun xs => .need (xs.length ≤ 1000000) (M.lcM xs fun a => (mt (put ρ a)).bind fun b => .ifb b ((me (put ρ a)).bind fun y => .ret (some y)) (.ret none)) := fun k F H σ ρ c Q w e h =>
  hi k F H σ ρ c _ w e (wp_imp h fun xs c1 ⟨hxs, q⟩ J F1 H1 x1 w1 wk D nD => by
    have nDH : H D = none := by
      cases z : H D with
      | none => rfl
      | some o => exact absurd nD (x1.on D (by rw [z]; simp))
    have nD0 := w.h0 nDH
    have nDF : F1 D = none := w1.sub.free nD
    have now : D ∉ E.owns σ := fun z => (E.has e.r z).1 nDH
    have np : k.p ≠ some D := w.np nD0
    refine ⟨fun i n H' => n = xs.length - i ∧ i ≤ xs.length ∧ ∃ F' c' acc ys, Same F1 F' ∧ ExtX k.p F H F' H' ∧ Wo k F' H' c' ∧ EI k E F' H' σ ρ ∧ F' D = none ∧ H' D = some (.lst acc) ∧ acc.length ≤ i ∧ All2 (Rb.r F') acc ys ∧
        (M.lcM (xs.drop i) fun a => (mt (put ρ a)).bind fun b => .ifb b ((me (put ρ a)).bind fun y => .ret (some y)) (.ret none)).wp c' (fun zs c => VN k F H Rb Q (ys ++ zs) c) (XP μ k),
      ⟨xs.length, by simp, Nat.zero_le _, F1, c1, [], [], Same.refl _, x1.mod nDH nDF, w1.mod nD0 nDF, (e.step x1).upd now (.inl nD), nDF, upd_same, Nat.le_refl _, .nil, q⟩, ?_⟩
    rintro i n H' ⟨rfl, hi, F', c', acc, ys, s1, x', w', e', f', hD', hl, al, q'⟩
    obtain ⟨go, stop⟩ := wk i F' H' s1 w'.sub
    by_cases hlt : i < xs.length
    · obtain ⟨g1, g2⟩ := go _ (List.getElem?_eq_getElem hlt)
      have ed : xs.drop i = xs[i] :: xs.drop (i + 1) := List.drop_eq_getElem_cons hlt
      rw [ed, M.lcM_cons] at q'
      refine .inr ⟨g1, fun H2 => i + 1 ≤ xs.length ∧ ∃ F' c' acc ys, Same F1 F' ∧ ExtX k.p F H F' H2 ∧ Wo k F' H2 c' ∧ EI k E F' H2 σ ρ ∧ F' D = none ∧ H2 D = some (.lst acc) ∧ acc.length ≤ i + 1 ∧ All2 (Rb.r F') acc ys ∧
        (M.lcM (xs.drop (i + 1)) fun a => (mt (put ρ a)).bind fun b => .ifb b ((me (put ρ a)).bind fun y => .ret (some y)) (.ret none)).wp c' (fun zs c => VN k F H Rb Q (ys ++ zs) c) (XP μ k),
        fun H2 ⟨z0, z⟩ => ⟨xs.length - (i + 1), by omega, rfl, z0, z⟩, fun x H2 y => ?_⟩
      obtain ⟨F2, x2, r2⟩ := g2 x H2 y
      obtain ⟨x2', w2⟩ := w'.call x2
      refine hg k F2 H2 σ ρ c' x _ _ w2 (e'.step x2') r2 fun σ3 hw e3 => ⟨hw, ?_⟩
      refine ht k F2 H2 σ3 _ c' _ w2 e3 (wp_imp q' fun b c3 z F3 H3 x3 w3 => ?_)
      have x13 := x2'.trans x3
      have f3 : F3 D = none := (x13.old D (some_ne hD')).trans f'
      have h3 : H3 D = some (.lst acc) := x13.hp D _ np hD'
      cases b with
      | false => exact ⟨hlt, F3, c3, acc, ys, s1.trans x13.fz, x'.trans x13, w3, e'.step x13, f3, h3, Nat.le_succ_of_le hl, al.imp fun _ _ g => Rb.st x13.fz g, z⟩
      | true =>
        refine he k F3 H3 σ3 _ c3 _ w3 (e3.step x3) (wp_imp z fun y c4 z v F4 H4 x4 w4 r4 => ?_)
        have x14 := x13.trans x4
        have f4 : F4 D = none := (x14.old D (some_ne hD')).trans f'
        have h4 : H4 D = some (.lst acc) := x14.hp D _ np hD'
        refine ⟨acc, h4, by rw [sizeLine_eq]; omega, hlt, F4, c4, acc ++ [v], ys ++ [y], s1.trans x14.fz, (x'.trans x14).mod nDH f4, w4.mod nD0 f4, (e'.step x14).upd now (.lst h4), f4, upd_same, by rw [List.length_append]; exact Nat.succ_le_succ hl, (al.imp fun _ _ g => Rb.st x14.fz g).snoc r4, ?_⟩
        exact wp_imp z fun zs c z => by
          rw [List.append_assoc]
          exact z
    · have e0 : i = xs.length := by omega
      subst e0
      rw [List.drop_length, M.lcM_nil] at q'
      refine .inl ⟨stop (Nat.le_refl _), ?_⟩
      have z : VN k F H Rb Q (ys ++ []) c' := q'
      rw [List.append_nil] at z
      exact z D acc F' H' x' w' nDH nD0 hD' f' al)
theorem i_ls {K : PySem.W.Frag} {tl : TE} {m : Γ → M (List α)} (h : SE μ E (rLs Ra) tl m) : SI μ E Ra (iList K tl) m := fun k F H σ ρ c W w e q =>
  h k F H σ ρ c _ w e (wp_imp q fun xs c1 z v F1 H1 x1 w1 ⟨p, vs, ev, hp, al⟩ => ⟨p, ev, ⟨vs, .of (w1.sub _ _ hp)⟩, z _ F1 H1 x1 w1 fun i F' H' s1 s2 => by
    have sq : SqL K H' p vs := .of (s2 _ _ (s1 _ _ hp))
    refine ⟨fun a ha => ?_, fun hi => ⟨vs, sq, by rw [al.len]; exact hi⟩⟩
    obtain ⟨u, hu, r⟩ := al.get ha
    exact ⟨⟨vs, u, sq, hu⟩, fun x H'' ⟨e1, e2⟩ => by
      subst e1
      have := e2 vs sq
      rw [hu] at this
      cases this
      exact ⟨F', ExtX.refl s2, Ra.st s1 r⟩⟩⟩)
theorem i_tup {K : PySem.W.Frag} {tl : TE} {m : Γ → M (List α)} (h : SE μ E (rTup K Ra) tl m) : SI μ E Ra (iTup K tl) m := fun k F H σ ρ c W w e q =>
  h k F H σ ρ c _ w e (wp_imp q fun xs c1 z v F1 H1 x1 w1 ⟨p, vs, ev, hp, al⟩ => ⟨p, ev, ⟨vs, same_seqT w1.sub hp⟩, z _ F1 H1 x1 w1 fun i F' H' s1 s2 => by
    have sq : SqT K H' p vs := same_seqT s2 (same_seqT s1 hp)
    refine ⟨fun a ha => ?_, fun hi => ⟨vs, sq, by rw [al.len]; exact hi⟩⟩
    obtain ⟨u, hu, r⟩ := al.get ha
    exact ⟨⟨vs, u, sq, hu⟩, fun x H'' ⟨e1, e2⟩ => by
      subst e1
      have := e2 vs sq
      rw [hu] at this
      cases this
      exact ⟨F', ExtX.refl s2, Ra.st s1 r⟩⟩⟩)
theorem rng_ex (lo hi : Int) : ∃ l : List Int, l = (List.range (hi - lo).toNat).map fun i : Nat => lo + (i : Int) := ⟨_, rfl⟩
noncomputable def rng (lo hi : Int) : List Int := Classical.choose (rng_ex lo hi)
theorem rng_eq (lo hi : Int) : rng lo hi = (List.range (hi - lo).toNat).map fun i : Nat => lo + (i : Int) := Classical.choose_spec (rng_ex lo hi)
theorem rng_get {lo hi a : Int} {i : Nat} (h : (rng lo hi)[i]? = some a) : i < (hi - lo).toNat ∧ a = lo + (i : Int) := by
  rw [rng_eq] at h
  rw [List.getElem?_map] at h
  cases z : (List.range (hi - lo).toNat)[i]? with
  | none => rw [z] at h; cases h
  | some j =>
    rw [z] at h
    obtain ⟨h1, h2⟩ := List.getElem?_eq_some_iff.mp z
    rw [List.length_range] at h1
    rw [List.getElem_range] at h2
    cases h
    exact ⟨h1, by rw [h2]⟩
theorem rng_walks {F1 : Hp} {lo hi : Int} : Walks (Itr lo (hi - lo).toNat) F1 rInt (rng lo hi) := fun i F' H' s1 s2 =>
  ⟨fun a ha => by
    obtain ⟨h1, h2⟩ := rng_get ha
    exact ⟨h1, fun x H'' ⟨e1, e2⟩ => ⟨F', by rw [e1]; exact ExtX.refl s2, by rw [h2]; exact e2⟩⟩, fun hi => by
    rw [rng_eq, List.length_map, List.length_range] at hi
    exact hi⟩
theorem i_rng2 {ta tb : TE} {ma mb : Γ → M Int} (ha : SE μ E rInt ta ma) (hb : SE μ E rInt tb mb) : SI μ E rInt (iRng2 (tCons ta (tCons tb tNil))) fun ρ => (ma ρ).bind fun a => (mb ρ).bind fun b => .need (-(2 ^ 62) ≤ a ∧ a < 2 ^ 62 ∧ -(2 ^ 62) ≤ b ∧ b < 2 ^ 62) (.ret (rng a b)) := fun k F H σ ρ c W w e h =>
  ha k F H σ ρ c _ w e (wp_imp h fun a c1 q v F1 H1 x1 w1 r1 => hb k F1 H1 σ ρ c1 _ w1 (e.step x1) (wp_imp q fun b c2 ⟨q1, q⟩ v2 F2 H2 x2 w2 r2 => by
    cases r1
    cases r2
    exact ⟨a, b, rfl, q1, q _ F2 H2 (x1.trans x2) w2 rng_walks⟩))
theorem i_rng1 {ta : TE} {ma : Γ → M Int} (ha : SE μ E rInt ta ma) : SI μ E rInt (iRng1 (tCons ta tNil)) fun ρ => (ma ρ).bind fun a => .need (-(2 ^ 62) ≤ a ∧ a < 2 ^ 62) (.ret (rng 0 a)) := fun k F H σ ρ c W w e h =>
  ha k F H σ ρ c _ w e (wp_imp h fun a c1 ⟨⟨q1, q2⟩, q⟩ v F1 H1 x1 w1 r1 => by
    cases r1
    exact ⟨a, rfl, q1, q2, q _ F1 H1 x1 w1 (by
      have z := rng_walks (F1 := F1) (lo := 0) (hi := a)
      rw [Int.sub_zero] at z
      exact z)⟩)
structure St0 (S : RA α) (n : Nat) (E : EV Γ) (ρ0 : α → Γ) : Prop where
  r : ∀ {p : Option Addr} {H0 F H : Hp} {vs : List V} {a : α}, S.r F vs a → E.r p H0 F H (vs.map some ++ List.replicate n none) (ρ0 a)
  ow : ∀ σ, E.owns σ = []
theorem st_nil : St0 aNil 0 eNil fun _ => () := ⟨fun h => by subst h; rfl, fun _ => rfl⟩
theorem st_un {n : Nat} {ρ0 : Unit → Γ} (h : St0 aNil n E ρ0) : St0 aNil (n + 1) (eCons sUn E) fun a => ((), ρ0 a) := ⟨fun {p H0 F H vs a} z => by
  have z' : vs = [] := z
  subst z'
  exact ⟨none, List.replicate n none, rfl, trivial, h.r (F := F) (vs := []) z⟩, fun σ => by
  cases σ with
  | nil => rfl
  | cons o τ => exact h.ow τ⟩
theorem st_par {S : RA β} {n : Nat} {ρ0 : β → Γ} (h : St0 S n E ρ0) : St0 (aCons Ra S) n (eCons (sVal Ra) E) fun a => (a.1, ρ0 a.2) := ⟨fun ⟨v, ws, e, r, t⟩ => ⟨some v, ws.map some ++ List.replicate n none, by rw [e]; rfl, ⟨v, rfl, r⟩, h.r t⟩, fun σ => by
  cases σ with
  | nil => rfl
  | cons o τ => exact h.ow τ⟩
structure StD (S : RA α) (n : Nat) (E : EV Γ) (ρ0 : α → Γ) : Prop where
  r : ∀ {p : Addr} {H0 F H : Hp} {vs : List V} {a : α}, S.r F vs a → E.r (some p) H0 F H ((.ref p :: vs).map some ++ List.replicate n none) (ρ0 a)
  ow : ∀ σ, E.owns σ = []
theorem st_dice {S : RA β} {n : Nat} {ρ0 : β → Γ} (h : St0 S n E ρ0) : StD S n (eCons sDice E) fun a => ((), ρ0 a) := ⟨fun {p H0 F H vs a} z => ⟨_, vs.map some ++ List.replicate n none, rfl, ⟨p, rfl, rfl⟩, h.r z⟩, fun σ => by
  cases σ with
  | nil => rfl
  | cons o τ => exact h.ow τ⟩
theorem start_eq {N : List Str} {vs : List V} {n : Nat} (h : N.length = vs.length + n) : L2.start N vs = vs.map some ++ List.replicate n none := by
  unfold L2.start
  rw [h, Nat.add_sub_cancel_left]
theorem fn_body {S : RA α} {n : Nat} {ρ0 : α → Γ} {N : List Str} {t : TS} {mb : Γ → M (Ct Γ' Unit γ)} (h0 : St0 S n E ρ0) (hn : N.length = S.n + n) (hb : SS md0 E E' eNil R t mb) {vs : List V} {H : Hp} {Q : VK} {X : XK}
    (hs : spOf S R (fun a => (mb (ρ0 a)).fin) vs H Q X) : t { nx := fun _ H' => Q .non H', rt := Q } (L2.start N vs) H := by
  obtain ⟨F, a, s, r, h⟩ := hs
  rw [start_eq (n := n) (by rw [hn, S.len r])]
  refine hb ⟨none, F, H⟩ F H _ (ρ0 a) 0 _ ⟨s, ExtX.refl s, fun _ e => nomatch e⟩ ⟨h0.r r, by rw [h0.ow]; exact List.nodup_nil⟩ ?_
  refine (mb (ρ0 a)).mono 0 (fun t c z => ?_) (fun er z => z.elim) h
  cases t with
  | nx _ => exact z.elim
  | rt b => exact fun v F' H' w r => z v F' H' w.ext r
  | bk _ => exact z.elim
  | ct _ => exact z.elim
theorem fn_bodyD {S : RA α} {n : Nat} {ρ0 : α → Γ} {N : List Str} {t : TS} {mb : Γ → M (Ct Γ' Unit γ)} (h0 : StD S n E ρ0) (hn : N.length = S.n + 1 + n) (hb : SS md0 E E' eNil R t mb) {vs : List V} {H : Hp} {Q : VK} {X : XK}
    (hs : spOfD S R (fun a => (mb (ρ0 a)).fin) vs H Q X) : t { nx := fun _ H' => Q .non H', rt := Q } (L2.start N vs) H := by
  obtain ⟨F, p, ws, a, c, rfl, s, f, d, r, h⟩ := hs
  rw [start_eq (n := n) (by rw [hn, List.length_cons, S.len r])]
  have hp : H p ≠ none := by obtain ⟨_, _, _, z, _⟩ := d; rw [z]; simp
  refine hb ⟨some p, F, H⟩ F H _ (ρ0 a) c _ ⟨s, ExtX.refl s, fun q e => by cases e; exact ⟨f, hp, d⟩⟩ ⟨h0.r r, by rw [h0.ow]; exact List.nodup_nil⟩ ?_
  refine (mb (ρ0 a)).mono c (fun t c z => ?_) (fun er z => z.elim) h
  cases t with
  | nx _ => exact z.elim
  | rt b => exact fun v F' H' w r => z v F' H' w.ext (w.dice p rfl).1 (w.dice p rfl).2.2 r
  | bk _ => exact z.elim
  | ct _ => exact z.elim
theorem spOf_len {S : RA α} {m : α → M γ} {vs : List V} {H : Hp} {Q : VK} {X : XK} (h : spOf S R m vs H Q X) : vs.length = S.n := by
  obtain ⟨F, a, s, r, _⟩ := h
  exact S.len r
theorem spOfD_len {S : RA α} {m : α → M γ} {vs : List V} {H : Hp} {Q : VK} {X : XK} (h : spOfD S R m vs H Q X) : vs.length = S.n + 1 := by
  obtain ⟨F, p, ws, a, c, rfl, s, f, d, r, _⟩ := h
  rw [List.length_cons, S.len r]
end
theorem gt1 {Γ α T0 : Type} {s0 : SR T0} {S : SR α} {E : EV Γ} : GetS (eCons s0 (eCons S E)) 1 S (fun ρ => ρ.2.1) := getS get0
theorem gt2 {Γ α T0 T1 : Type} {s0 : SR T0} {s1 : SR T1} {S : SR α} {E : EV Γ} : GetS (eCons s0 (eCons s1 (eCons S E))) 2 S (fun ρ => ρ.2.2.1) := getS gt1
theorem gt3 {Γ α T0 T1 T2 : Type} {s0 : SR T0} {s1 : SR T1} {s2 : SR T2} {S : SR α} {E : EV Γ} : GetS (eCons s0 (eCons s1 (eCons s2 (eCons S E)))) 3 S (fun ρ => ρ.2.2.2.1) := getS gt2
theorem gt4 {Γ α T0 T1 T2 T3 : Type} {s0 : SR T0} {s1 : SR T1} {s2 : SR T2} {s3 : SR T3} {S : SR α} {E : EV Γ} : GetS (eCons s0 (eCons s1 (eCons s2 (eCons s3 (eCons S E))))) 4 S (fun ρ => ρ.2.2.2.2.1) := getS gt3
theorem gt5 {Γ α T0 T1 T2 T3 T4 : Type} {s0 : SR T0} {s1 : SR T1} {s2 : SR T2} {s3 : SR T3} {s4 : SR T4} {S : SR α} {E : EV Γ} : GetS (eCons s0 (eCons s1 (eCons s2 (eCons s3 (eCons s4 (eCons S E)))))) 5 S (fun ρ => ρ.2.2.2.2.2.1) := getS gt4
theorem gt6 {Γ α T0 T1 T2 T3 T4 T5 : Type} {s0 : SR T0} {s1 : SR T1} {s2 : SR T2} {s3 : SR T3} {s4 : SR T4} {s5 : SR T5} {S : SR α} {E : EV Γ} : GetS (eCons s0 (eCons s1 (eCons s2 (eCons s3 (eCons s4 (eCons s5 (eCons S E))))))) 6 S (fun ρ => ρ.2.2.2.2.2.2.1) := getS gt5
theorem gt7 {Γ α T0 T1 T2 T3 T4 T5 T6 : Type} {s0 : SR T0} {s1 : SR T1} {s2 : SR T2} {s3 : SR T3} {s4 : SR T4} {s5 : SR T5} {s6 : SR T6} {S : SR α} {E : EV Γ} : GetS (eCons s0 (eCons s1 (eCons s2 (eCons s3 (eCons s4 (eCons s5 (eCons s6 (eCons S E)))))))) 7 S (fun ρ => ρ.2.2.2.2.2.2.2.1) := getS gt6
theorem gt8 {Γ α T0 T1 T2 T3 T4 T5 T6 T7 : Type} {s0 : SR T0} {s1 : SR T1} {s2 : SR T2} {s3 : SR T3} {s4 : SR T4} {s5 : SR T5} {s6 : SR T6} {s7 : SR T7} {S : SR α} {E : EV Γ} : GetS (eCons s0 (eCons s1 (eCons s2 (eCons s3 (eCons s4 (eCons s5 (eCons s6 (eCons s7 (eCons S E))))))))) 8 S (fun ρ => ρ.2.2.2.2.2.2.2.2.1) := getS gt7
theorem gt9 {Γ α T0 T1 T2 T3 T4 T5 T6 T7 T8 : Type} {s0 : SR T0} {s1 : SR T1} {s2 : SR T2} {s3 : SR T3} {s4 : SR T4} {s5 : SR T5} {s6 : SR T6} {s7 : SR T7} {s8 : SR T8} {S : SR α} {E : EV Γ} : GetS (eCons s0 (eCons s1 (eCons s2 (eCons s3 (eCons s4 (eCons s5 (eCons s6 (eCons s7 (eCons s8 (eCons S E)))))))))) 9 S (fun ρ => ρ.2.2.2.2.2.2.2.2.2.1) := getS gt8
theorem gt10 {Γ α T0 T1 T2 T3 T4 T5 T6 T7 T8 T9 : Type} {s0 : SR T0} {s1 : SR T1} {s2 : SR T2} {s3 : SR T3} {s4 : SR T4} {s5 : SR T5} {s6 : SR T6} {s7 : SR T7} {s8 : SR T8} {s9 : SR T9} {S : SR α} {E : EV Γ} : GetS (eCons s0 (eCons s1 (eCons s2 (eCons s3 (eCons s4 (eCons s5 (eCons s6 (eCons s7 (eCons s8 (eCons s9 (eCons S E))))))))))) 10 S (fun ρ => ρ.2.2.2.2.2.2.2.2.2.2.1) := getS gt9
theorem gt11 {Γ α T0 T1 T2 T3 T4 T5 T6 T7 T8 T9 T10 : Type} {s0 : SR T0} {s1 : SR T1} {s2 : SR T2} {s3 : SR T3} {s4 : SR T4} {s5 : SR T5} {s6 : SR T6} {s7 : SR T7} {s8 : SR T8} {s9 : SR T9} {s10 : SR T10} {S : SR α} {E : EV Γ} : GetS (eCons s0 (eCons s1 (eCons s2 (eCons s3 (eCons s4 (eCons s5 (eCons s6 (eCons s7 (eCons s8 (eCons s9 (eCons s10 (eCons S E)))))))))))) 11 S (fun ρ => ρ.2.2.2.2.2.2.2.2.2.2.2.1) := getS gt10
theorem gt12 {Γ α T0 T1 T2 T3 T4 T5 T6 T7 T8 T9 T10 T11 : Type} {s0 : SR T0} {s1 : SR T1} {s2 : SR T2} {s3 : SR T3} {s4 : SR T4} {s5 : SR T5} {s6 : SR T6} {s7 : SR T7} {s8 : SR T8} {s9 : SR T9} {s10 : SR T10} {s11 : SR T11} {S : SR α} {E : EV Γ} : GetS (eCons s0 (eCons s1 (eCons s2 (eCons s3 (eCons s4 (eCons s5 (eCons s6 (eCons s7 (eCons s8 (eCons s9 (eCons s10 (eCons s11 (eCons S E))))))))))))) 12 S (fun ρ => ρ.2.2.2.2.2.2.2.2.2.2.2.2.1) := getS gt11
theorem gt13 {Γ α T0 T1 T2 T3 T4 T5 T6 T7 T8 T9 T10 T11 T12 : Type} {s0 : SR T0} {s1 : SR T1} {s2 : SR T2} {s3 : SR T3} {s4 : SR T4} {s5 : SR T5} {s6 : SR T6} {s7 : SR T7} {s8 : SR T8} {s9 : SR T9} {s10 : SR T10} {s11 : SR T11} {s12 : SR T12} {S : SR α} {E : EV Γ} : GetS (eCons s0 (eCons s1 (eCons s2 (eCons s3 (eCons s4 (eCons s5 (eCons s6 (eCons s7 (eCons s8 (eCons s9 (eCons s10 (eCons s11 (eCons s12 (eCons S E)))))))))))))) 13 S (fun ρ => ρ.2.2.2.2.2.2.2.2.2.2.2.2.2.1) := getS gt12
theorem pu1 {Γ α β T0 : Type} {s0 : SR T0} {S : SR α} {S' : SR β} {E : EV Γ} : PutS (eCons s0 (eCons S E)) 1 S' (eCons s0 (eCons S' E)) (fun ρ b => (ρ.1, b, ρ.2.2)) := putS put0
theorem pu2 {Γ α β T0 T1 : Type} {s0 : SR T0} {s1 : SR T1} {S : SR α} {S' : SR β} {E : EV Γ} : PutS (eCons s0 (eCons s1 (eCons S E))) 2 S' (eCons s0 (eCons s1 (eCons S' E))) (fun ρ b => (ρ.1, ρ.2.1, b, ρ.2.2.2)) := putS pu1
theorem pu3 {Γ α β T0 T1 T2 : Type} {s0 : SR T0} {s1 : SR T1} {s2 : SR T2} {S : SR α} {S' : SR β} {E : EV Γ} : PutS (eCons s0 (eCons s1 (eCons s2 (eCons S E)))) 3 S' (eCons s0 (eCons s1 (eCons s2 (eCons S' E)))) (fun ρ b => (ρ.1, ρ.2.1, ρ.2.2.1, b, ρ.2.2.2.2)) := putS pu2
theorem pu4 {Γ α β T0 T1 T2 T3 : Type} {s0 : SR T0} {s1 : SR T1} {s2 : SR T2} {s3 : SR T3} {S : SR α} {S' : SR β} {E : EV Γ} : PutS (eCons s0 (eCons s1 (eCons s2 (eCons s3 (eCons S E))))) 4 S' (eCons s0 (eCons s1 (eCons s2 (eCons s3 (eCons S' E))))) (fun ρ b => (ρ.1, ρ.2.1, ρ.2.2.1, ρ.2.2.2.1, b, ρ.2.2.2.2.2)) := putS pu3
theorem pu5 {Γ α β T0 T1 T2 T3 T4 : Type} {s0 : SR T0} {s1 : SR T1} {s2 : SR T2} {s3 : SR T3} {s4 : SR T4} {S : SR α} {S' : SR β} {E : EV Γ} : PutS (eCons s0 (eCons s1 (eCons s2 (eCons s3 (eCons s4 (eCons S E)))))) 5 S' (eCons s0 (eCons s1 (eCons s2 (eCons s3 (eCons s4 (eCons S' E)))))) (fun ρ b => (ρ.1, ρ.2.1, ρ.2.2.1, ρ.2.2.2.1, ρ.2.2.2.2.1, b, ρ.2.2.2.2.2.2)) := putS pu4
theorem pu6 {Γ α β T0 T1 T2 T3 T4 T5 : Type} {s0 : SR T0} {s1 : SR T1} {s2 : SR T2} {s3 : SR T3} {s4 : SR T4} {s5 : SR T5} {S : SR α} {S' : SR β} {E : EV Γ} : PutS (eCons s0 (eCons s1 (eCons s2 (eCons s3 (eCons s4 (eCons s5 (eCons S E))))))) 6 S' (eCons s0 (eCons s1 (eCons s2 (eCons s3 (eCons s4 (eCons s5 (eCons S' E))))))) (fun ρ b => (ρ.1, ρ.2.1, ρ.2.2.1, ρ.2.2.2.1, ρ.2.2.2.2.1, ρ.2.2.2.2.2.1, b, ρ.2.2.2.2.2.2.2)) := putS pu5
theorem pu7 {Γ α β T0 T1 T2 T3 T4 T5 T6 : Type} {s0 : SR T0} {s1 : SR T1} {s2 : SR T2} {s3 : SR T3} {s4 : SR T4} {s5 : SR T5} {s6 : SR T6} {S : SR α} {S' : SR β} {E : EV Γ} : PutS (eCons s0 (eCons s1 (eCons s2 (eCons s3 (eCons s4 (eCons s5 (eCons s6 (eCons S E)))))))) 7 S' (eCons s0 (eCons s1 (eCons s2 (eCons s3 (eCons s4 (eCons s5 (eCons s6 (eCons S' E)))))))) (fun ρ b => (ρ.1, ρ.2.1, ρ.2.2.1, ρ.2.2.2.1, ρ.2.2.2.2.1, ρ.2.2.2.2.2.1, ρ.2.2.2.2.2.2.1, b, ρ.2.2.2.2.2.2.2.2)) := putS pu6
theorem pu8 {Γ α β T0 T1 T2 T3 T4 T5 T6 T7 : Type} {s0 : SR T0} {s1 : SR T1} {s2 : SR T2} {s3 : SR T3} {s4 : SR T4} {s5 : SR T5} {s6 : SR T6} {s7 : SR T7} {S : SR α} {S' : SR β} {E : EV Γ} : PutS (eCons s0 (eCons s1 (eCons s2 (eCons s3 (eCons s4 (eCons s5 (eCons s6 (eCons s7 (eCons S E))))))))) 8 S' (eCons s0 (eCons s1 (eCons s2 (eCons s3 (eCons s4 (eCons s5 (eCons s6 (eCons s7 (eCons S' E))))))))) (fun ρ b => (ρ.1, ρ.2.1, ρ.2.2.1, ρ.2.2.2.1, ρ.2.2.2.2.1, ρ.2.2.2.2.2.1, ρ.2.2.2.2.2.2.1, ρ.2.2.2.2.2.2.2.1, b, ρ.2.2.2.2.2.2.2.2.2)) := putS pu7
theorem pu9 {Γ α β T0 T1 T2 T3 T4 T5 T6 T7 T8 : Type} {s0 : SR T0} {s1 : SR T1} {s2 : SR T2} {s3 : SR T3} {s4 : SR T4} {s5 : SR T5} {s6 : SR T6} {s7 : SR T7} {s8 : SR T8} {S : SR α} {S' : SR β} {E : EV Γ} : PutS (eCons s0 (eCons s1 (eCons s2 (eCons s3 (eCons s4 (eCons s5 (eCons s6 (eCons s7 (eCons s8 (eCons S E)))))))))) 9 S' (eCons s0 (eCons s1 (eCons s2 (eCons s3 (eCons s4 (eCons s5 (eCons s6 (eCons s7 (eCons s8 (eCons S' E)))))))))) (fun ρ b => (ρ.1, ρ.2.1, ρ.2.2.1, ρ.2.2.2.1, ρ.2.2.2.2.1, ρ.2.2.2.2.2.1, ρ.2.2.2.2.2.2.1, ρ.2.2.2.2.2.2.2.1, ρ.2.2.2.2.2.2.2.2.1, b, ρ.2.2.2.2.2.2.2.2.2.2)) := putS pu8
theorem pu10 {Γ α β T0 T1 T2 T3 T4 T5 T6 T7 T8 T9 : Type} {s0 : SR T0} {s1 : SR T1} {s2 : SR T2} {s3 : SR T3} {s4 : SR T4} {s5 : SR T5} {s6 : SR T6} {s7 : SR T7} {s8 : SR T8} {s9 : SR T9} {S : SR α} {S' : SR β} {E : EV Γ} : PutS (eCons s0 (eCons s1 (eCons s2 (eCons s3 (eCons s4 (eCons s5 (eCons s6 (eCons s7 (eCons s8 (eCons s9 (eCons S E))))))))))) 10 S' (eCons s0 (eCons s1 (eCons s2 (eCons s3 (eCons s4 (eCons s5 (eCons s6 (eCons s7 (eCons s8 (eCons s9 (eCons S' E))))))))))) (fun ρ b => (ρ.1, ρ.2.1, ρ.2.2.1, ρ.2.2.2.1, ρ.2.2.2.2.1, ρ.2.2.2.2.2.1, ρ.2.2.2.2.2.2.1, ρ.2.2.2.2.2.2.2.1, ρ.2.2.2.2.2.2.2.2.1, ρ.2.2.2.2.2.2.2.2.2.1, b, ρ.2.2.2.2.2.2.2.2.2.2.2)) := putS pu9
theorem pu11 {Γ α β T0 T1 T2 T3 T4 T5 T6 T7 T8 T9 T10 : Type} {s0 : SR T0} {s1 : SR T1} {s2 : SR T2} {s3 : SR T3} {s4 : SR T4} {s5 : SR T5} {s6 : SR T6} {s7 : SR T7} {s8 : SR T8} {s9 : SR T9} {s10 : SR T10} {S : SR α} {S' : SR β} {E : EV Γ} : PutS (eCons s0 (eCons s1 (eCons s2 (eCons s3 (eCons s4 (eCons s5 (eCons s6 (eCons s7 (eCons s8 (eCons s9 (eCons s10 (eCons S E)))))))))))) 11 S' (eCons s0 (eCons s1 (eCons s2 (eCons s3 (eCons s4 (eCons s5 (eCons s6 (eCons s7 (eCons s8 (eCons s9 (eCons s10 (eCons S' E)))))))))))) (fun ρ b => (ρ.1, ρ.2.1, ρ.2.2.1, ρ.2.2.2.1, ρ.2.2.2.2.1, ρ.2.2.2.2.2.1, ρ.2.2.2.2.2.2.1, ρ.2.2.2.2.2.2.2.1, ρ.2.2.2.2.2.2.2.2.1, ρ.2.2.2.2.2.2.2.2.2.1, ρ.2.2.2.2.2.2.2.2.2.2.1, b, ρ.2.2.2.2.2.2.2.2.2.2.2.2)) := putS pu10
theorem pu12 {Γ α β T0 T1 T2 T3 T4 T5 T6 T7 T8 T9 T10 T11 : Type} {s0 : SR T0} {s1 : SR T1} {s2 : SR T2} {s3 : SR T3} {s4 : SR T4} {s5 : SR T5} {s6 : SR T6} {s7 : SR T7} {s8 : SR T8} {s9 : SR T9} {s10 : SR T10} {s11 : SR T11} {S : SR α} {S' : SR β} {E : EV Γ} : PutS (eCons s0 (eCons s1 (eCons s2 (eCons s3 (eCons s4 (eCons s5 (eCons s6 (eCons s7 (eCons s8 (eCons s9 (eCons s10 (eCons s11 (eCons S E))))))))))))) 12 S' (eCons s0 (eCons s1 (eCons s2 (eCons s3 (eCons s4 (eCons s5 (eCons s6 (eCons s7 (eCons s8 (eCons s9 (eCons s10 (eCons s11 (eCons S' E))))))))))))) (fun ρ b => (ρ.1, ρ.2.1, ρ.2.2.1, ρ.2.2.2.1, ρ.2.2.2.2.1, ρ.2.2.2.2.2.1, ρ.2.2.2.2.2.2.1, ρ.2.2.2.2.2.2.2.1, ρ.2.2.2.2.2.2.2.2.1, ρ.2.2.2.2.2.2.2.2.2.1, ρ.2.2.2.2.2.2.2.2.2.2.1, ρ.2.2.2.2.2.2.2.2.2.2.2.1, b, ρ.2.2.2.2.2.2.2.2.2.2.2.2.2)) := putS pu11
theorem pu13 {Γ α β T0 T1 T2 T3 T4 T5 T6 T7 T8 T9 T10 T11 T12 : Type} {s0 : SR T0} {s1 : SR T1} {s2 : SR T2} {s3 : SR T3} {s4 : SR T4} {s5 : SR T5} {s6 : SR T6} {s7 : SR T7} {s8 : SR T8} {s9 : SR T9} {s10 : SR T10} {s11 : SR T11} {s12 : SR T12} {S : SR α} {S' : SR β} {E : EV Γ} : PutS (eCons s0 (eCons s1 (eCons s2 (eCons s3 (eCons s4 (eCons s5 (eCons s6 (eCons s7 (eCons s8 (eCons s9 (eCons s10 (eCons s11 (eCons s12 (eCons S E)))))))))))))) 13 S' (eCons s0 (eCons s1 (eCons s2 (eCons s3 (eCons s4 (eCons s5 (eCons s6 (eCons s7 (eCons s8 (eCons s9 (eCons s10 (eCons s11 (eCons s12 (eCons S' E)))))))))))))) (fun ρ b => (ρ.1, ρ.2.1, ρ.2.2.1, ρ.2.2.2.1, ρ.2.2.2.2.1, ρ.2.2.2.2.2.1, ρ.2.2.2.2.2.2.1, ρ.2.2.2.2.2.2.2.1, ρ.2.2.2.2.2.2.2.2.1, ρ.2.2.2.2.2.2.2.2.2.1, ρ.2.2.2.2.2.2.2.2.2.2.1, ρ.2.2.2.2.2.2.2.2.2.2.2.1, ρ.2.2.2.2.2.2.2.2.2.2.2.2.1, b, ρ.2.2.2.2.2.2.2.2.2.2.2.2.2.2)) := putS pu12
section
variable {Γ Γ' Γ'' Δ α β γ δ : Type} {μ : Md} {E : EV Γ} {E' : EV Γ'} {E'' : EV Γ''} {El : EV Δ} {Ra : Rp α} {Rb : Rp β} {R : Rp γ} {K : PySem.W.Frag}
theorem VP.now {k : Cn} {F H : Hp} {c : Nat} {Q : VK} {v : V} {a : α} (w : Wo k F H c) (q : VP k F H Ra Q a c) (r : Ra.r F v a) : Q v H := q v F H (ExtX.refl w.sub) w r
theorem VP.newT {k : Cn} {F H : Hp} {c : Nat} {Q : VK} {a : α} {p : Addr} {o : HO} (w : Wo k F H c) (q : VP k F H Ra Q a c) (n : H p = none) (r : Same F (upd F p o) → Ra.r (upd F p o) (.ref p) a) : Q (.ref p) (upd H p o) :=
  q _ _ _ (ExtX.new (p := k.p) w.sub n o) (w.new n o) (r (ExtX.new (p := k.p) w.sub n o).fz)
theorem VN.newL {k : Cn} {F H : Hp} {c : Nat} {Q : VK} {xs : List α} {p : Addr} {vs : List V} (w : Wo k F H c) (q : VN k F H Ra Q xs c) (n : H p = none) (r : All2 (Ra.r F) vs xs) : Q (.ref p) (upd H p (.lst vs)) :=
  q p vs _ _ (ExtX.own (p := k.p) w.sub n _) (w.own n _) n (w.h0 n) upd_same (w.sub.free n) r
abbrev a1 (R : Rp α) : RA (α × Unit) := aCons R aNil
abbrev a2 (R : Rp α) (S : Rp β) : RA (α × β × Unit) := aCons R (aCons S aNil)
theorem one {F : Hp} {vs : List V} {a : α × Unit} (h : (a1 Ra).r F vs a) : ∃ v, vs = [v] ∧ Ra.r F v a.1 := by
  obtain ⟨v, ws, e, r, e2⟩ := h
  have e2' : ws = [] := e2
  exact ⟨v, by rw [e, e2'], r⟩
theorem two {F : Hp} {vs : List V} {a : α × β × Unit} (h : (a2 Ra Rb).r F vs a) : ∃ v w, vs = [v, w] ∧ Ra.r F v a.1 ∧ Rb.r F w a.2.1 := by
  obtain ⟨v, ws, e, r, u, us, e1, r2, e2⟩ := h
  have e2' : us = [] := e2
  exact ⟨v, u, by rw [e, e1, e2'], r, r2⟩
theorem c_abs : CaS μ (fun xs H Q => ∃ i, xs = [.int i] ∧ Q (.int (if i < 0 then -i else i)) H) (a1 rInt) rInt fun a => .ret (if a.1 < 0 then -a.1 else a.1) := fun k F H c vs a Q w r q => by
  obtain ⟨v, e, r⟩ := one r
  exact ⟨a.1, by rw [e, r], q.now w rfl⟩
theorem c_len {n : α → Nat} (h : ∀ {F H : Hp} {v : V} {a : α}, Same F H → Ra.r F v a → LenV K v H (n a)) : CaS μ (fun xs H Q => ∃ x n, xs = [x] ∧ LenV K x H n ∧ Q (.int n) H) (a1 Ra) rInt fun a => .ret (n a.1 : Int) := fun k F H c vs a Q w r q => by
  obtain ⟨v, e, r⟩ := one r
  exact ⟨v, n a.1, e, h w.sub r, q.now w rfl⟩
theorem len_ls {F H : Hp} {v : V} {xs : List α} (s : Same F H) (h : (rLs Ra).r F v xs) : LenV K v H xs.length := by
  obtain ⟨p, vs, rfl, hp, al⟩ := h
  exact .inl ⟨vs, .of (s _ _ hp), al.len.symm⟩
theorem c_lenS : CaS μ (fun xs H Q => ∃ z, xs = [.str z] ∧ z.length ≤ sizeLine ∧ Q (.int z.length) H) (a1 rStr) rInt fun a => .need (a.1.length ≤ sizeLine) (.ret (a.1.length : Int)) := fun k F H c vs a Q w r q => by
  obtain ⟨v, e, r⟩ := one r
  exact ⟨a.1, by rw [e, r], q.1, VP.now w q.2 rfl⟩
theorem bl_ls {F H : Hp} {v : V} {xs : List Bool} (s : Same F H) (h : (rLs rBl).r F v xs) : ∃ p, v = .ref p ∧ SqL K H p (xs.map V.bl) := by
  obtain ⟨p, vs, rfl, hp, al⟩ := h
  exact ⟨p, rfl, .of (by rw [← al.to_map V.bl fun _ _ z => z]; exact s _ _ hp)⟩
theorem c_all : CaS μ (rAll K) (a1 (rLs rBl)) rBl fun a => .ret (a.1.all id) := fun k F H c vs a Q w r q => by
  obtain ⟨v, e, r⟩ := one r
  obtain ⟨p, ev, hp⟩ := bl_ls (K := K) w.sub r
  exact ⟨p, a.1, by rw [e, ev], hp, VP.now w q rfl⟩
theorem c_intI : CaS μ (fun xs H Q => (∃ i, xs = [.int i] ∧ Q (.int i) H) ∨ ∃ k, xs = [.bl k] ∧ Q (.int (if k then 1 else 0)) H) (a1 rInt) rInt fun a => .ret a.1 := fun k F H c vs a Q w r q => by
  obtain ⟨v, e, r⟩ := one r
  exact .inl ⟨a.1, by rw [e, r], VP.now w q rfl⟩
theorem c_intB : CaS μ (fun xs H Q => (∃ i, xs = [.int i] ∧ Q (.int i) H) ∨ ∃ k, xs = [.bl k] ∧ Q (.int (if k then 1 else 0)) H) (a1 rBl) rInt fun a => .ret (if a.1 = true then 1 else 0) := fun k F H c vs a Q w r q => by
  obtain ⟨v, e, r⟩ := one r
  exact .inr ⟨a.1, by rw [e, r], VP.now w q rfl⟩
theorem c_strI : CaS μ (fun xs H Q => ∃ i, xs = [.int i] ∧ i.natAbs.log2 < 1920 ∧ Q (.str (toString i)) H) (a1 rInt) rStr fun a => .need (a.1.natAbs.log2 < 1920) (.ret (toString a.1)) := fun k F H c vs a Q w r q => by
  obtain ⟨v, e, r⟩ := one r
  exact ⟨a.1, by rw [e, r], q.1, VP.now w q.2 rfl⟩
theorem dp_int : DpR K rInt .int 0 := ⟨fun h => by subst h; exact .int _, fun _ => by simp [PyData.depth]⟩
theorem dp_bl : DpR K rBl .bool 0 := ⟨fun h => by subst h; exact .bl _, fun _ => by simp [PyData.depth]⟩
theorem dp_str : DpR K rStr .str 0 := ⟨fun h => by subst h; exact .str _, fun _ => by simp [PyData.depth]⟩
theorem dp_non : DpR K rNon (fun _ => .none) 0 := ⟨fun h => by subst h; exact .non, fun _ => by simp [PyData.depth]⟩
theorem dps_of {d : α → PyData} {n : Nat} (hd : DpR K Ra d n) {F : Hp} {vs : List V} {xs : List α} (al : All2 (Ra.r F) vs xs) : DpAll K F vs (xs.map d) := by
  induction al with
  | nil => exact .nil
  | cons h _ ih => exact .cons (hd.dp h) ih
theorem deep_all {d : α → PyData} {n : Nat} (h : ∀ a, (d a).depth ≤ n) : ∀ xs : List α, PyData.depthAll (xs.map d) ≤ n
  | [] => by simp [PyData.depthAll]
  | x :: xs => by
    show PyData.depthAll (d x :: xs.map d) ≤ n
    rw [PyData.depthAll]
    exact Nat.max_le.mpr ⟨h x, deep_all h xs⟩
theorem dp_ls {d : α → PyData} {n : Nat} (hd : DpR K Ra d n) : DpR K (rLs Ra) (fun xs => .list (xs.map d)) (n + 1) := ⟨fun ⟨p, vs, e, hp, al⟩ => by subst e; exact .lst (.of hp) (dps_of hd al), fun xs => by rw [PyData.depth]; exact Nat.succ_le_succ (deep_all hd.deep xs)⟩
structure DpA (K : PySem.W.Frag) (S : RA α) (d : α → List PyData) (n : Nat) : Prop where
  dp : ∀ {F : Hp} {vs : List V} {a : α}, S.r F vs a → DpAll K F vs (d a)
  deep : ∀ a, PyData.depthAll (d a) ≤ n
theorem dpa_nil : DpA K aNil (fun _ => []) 0 := ⟨fun h => by subst h; exact .nil, fun _ => by simp [PyData.depthAll]⟩
theorem dpa_cons {d : α → PyData} {ds : β → List PyData} {S : RA β} {n m : Nat} (h : DpR K Ra d n) (hs : DpA K S ds m) : DpA K (aCons Ra S) (fun a => d a.1 :: ds a.2) (max n m) := ⟨fun ⟨v, ws, e, r, t⟩ => by subst e; exact .cons (h.dp r) (hs.dp t), fun a => by
  rw [PyData.depthAll]
  have := h.deep a.1
  have := hs.deep a.2
  omega⟩
theorem dp_tx {S : RA α} {ds : α → List PyData} {n : Nat} (h : DpA K S ds n) : DpR K (rTx K S) (fun a => .tuple (ds a)) (n + 1) := ⟨fun ⟨p, vs, e, hp, r⟩ => by subst e; exact .tup hp (h.dp r), fun a => by rw [PyData.depth]; exact Nat.succ_le_succ (h.deep a)⟩
def SO (μ : Md) (E : EV Γ) (to : TO) (m : Γ → M (Option Int)) : Prop := ∀ (k : Cn) (F H : Hp) (σ : L2.St) (ρ : Γ) (c : Nat) (Q : Option Int → Hp → Prop), Wo k F H c → EI k E F H σ ρ → (m ρ).wp c (fun o c' => ∀ F' H', ExtX k.p F H F' H' → Wo k F' H' c' → Q o H') (XP μ k) → to σ H Q
theorem so_none : SO μ E tNoPart fun _ => .ret none := fun k F H σ ρ c Q w e q => q F H (ExtX.refl w.sub) w
theorem so_some {te : TE} {m : Γ → M Int} (h : SE μ E rInt te m) : SO μ E (tPart te) fun ρ => (m ρ).bind fun i => .ret (some i) := fun k F H σ ρ c Q w e q => h k F H σ ρ c _ w e (wp_imp q fun i c1 z v F1 H1 x1 w1 r => ⟨i, r, z F1 H1 x1 w1⟩)
def SlS (μ : Md) (r : V → Option Int → Option Int → Hp → VK → Prop) (Ra : Rp α) (R : Rp γ) (mf : α → Option Int → Option Int → M γ) : Prop := ∀ (k : Cn) (F H : Hp) (c : Nat) (x : V) (a : α) (lo hi : Option Int) (Q : VK), Wo k F H c → Ra.r F x a → (mf a lo hi).wp c (VP k F H R Q) (XP μ k) → r x lo hi H Q
theorem e_sl {r : V → Option Int → Option Int → Hp → VK → Prop} {te : TE} {tl th : TO} {m : Γ → M α} {ml mh : Γ → M (Option Int)} {mf : α → Option Int → Option Int → M γ} (hr : SlS μ r Ra R mf) (he : SE μ E Ra te m) (hl : SO μ E tl ml) (hh : SO μ E th mh) :
    SE μ E R (tSl r te tl th) fun ρ => (m ρ).bind fun a => (ml ρ).bind fun lo => (mh ρ).bind fun hi => mf a lo hi := fun k F H σ ρ c Q w e h =>
  he k F H σ ρ c _ w e (wp_imp h fun a c1 q v F1 H1 x1 w1 r1 => hl k F1 H1 σ ρ c1 _ w1 (e.step x1) (wp_imp q fun lo c2 q F2 H2 x2 w2 => hh k F2 H2 σ ρ c2 _ w2 (e.step (x1.trans x2)) (wp_imp q fun hi c3 q F3 H3 x3 w3 =>
    hr k F3 H3 c3 v a lo hi Q w3 (Ra.st (x2.fz.trans x3.fz) r1) (wp_imp q fun _ _ z => VP.ext ((x1.trans x2).trans x3) z))))
def cutL (xs : List α) (lo hi : Option Int) : List α := (xs.drop (HT.sIx xs.length 0 lo)).take (HT.sIx xs.length xs.length hi - HT.sIx xs.length 0 lo)
theorem All2.cut {f : V → α → Prop} {vs : List V} {xs : List α} (h : All2 f vs xs) (lo hi : Option Int) : All2 f (cutV vs lo hi) (cutL xs lo hi) := by
  unfold cutV cutL
  rw [h.len]
  exact (h.drop _).take _
theorem sl_S : SlS μ rSlS rStr rStr fun z lo hi => .need (z.length ≤ sizeLine) (.ret (cutS z lo hi)) := fun k F H c x z lo hi Q w r q => ⟨z, r, q.1, VP.now w q.2 rfl⟩
theorem o_catL : OpN μ rCat (rLs Ra) (rLs Ra) Ra fun xs ys => .need (xs.length + ys.length ≤ sizeLine) (.ret (xs ++ ys)) := fun k F H c x y xs ys Q w ⟨p, vs, e, hp, al⟩ ⟨p2, vs2, e2, hp2, al2⟩ q =>
  ⟨p, p2, vs, vs2, e, e2, w.sub _ _ hp, w.sub _ _ hp2, by rw [al.len, al2.len]; exact q.1, fun l n => VN.newL w q.2 n (al.append al2)⟩
theorem o_addS : OpS μ (fun x y H Q => ∃ i j, x = .str i ∧ y = .str j ∧ i.length + j.length ≤ sizeLine ∧ Q (.str (i ++ j)) H) rStr rStr rStr fun a b => .need (a.length + b.length ≤ sizeLine) (.ret (a ++ b)) := fun k F H c x y a b Q w r r2 q => ⟨a, b, r, r2, q.1, VP.now w q.2 rfl⟩
structure FlR (R : Rp α) [DecidableEq α] : Prop where
  fl : ∀ {F : Hp} {v : V} {a : α}, R.r F v a → flatV v = true
  eq : ∀ {F : Hp} {v w : V} {a b : α}, R.r F v a → R.r F w b → eqV v w = decide (a = b)
def SV (μ : Md) (E : EV Γ) (S : SR α) (te : TE) (m : Γ → M α) : Prop := ∀ (k : Cn) (F H : Hp) (σ : L2.St) (ρ : Γ) (c : Nat) (Q : VK), Wo k F H c → EI k E F H σ ρ →
  (m ρ).wp c (fun a c' => ∀ v F' H', ExtX k.p F H F' H' → Wo k F' H' c' → S.r k.p k.H0 F' H' (some v) a → (∀ D, S.own (some v) = some D → H D = none) → Q v H') (XP μ k) → te σ H Q
theorem sv_e {te : TE} {m : Γ → M α} (h : SE μ E Ra te m) : SV μ E (sVal Ra) te m := fun k F H σ ρ c Q w e q => h k F H σ ρ c Q w e (wp_imp q fun _ _ z v F' H' x w' r => z v F' H' x w' ⟨v, rfl, r⟩ fun _ z => nomatch z)
theorem s_parV {S : SR α} {T : SR β} {i j : Nat} {ta tb : TE} {ma : Γ → M α} {mb : Γ → M β} {put : Γ → α → Γ'} {put' : Γ' → β → Γ''} (ha : SV μ E S ta ma) (hb : SV μ E T tb mb) (hp : PutS E i S E' put) (hp' : PutS E' j T E'' put') :
    SS μ E E'' El R (tPar i j (tCons ta (tCons tb tNil))) fun ρ => (ma ρ).bind fun a => (mb ρ).bind fun b => .ret (.nx (put' (put ρ a) b)) := fun k F H σ ρ c D w e h =>
  ha k F H σ ρ c _ w e (wp_imp h fun a c1 q v F1 H1 x1 w1 r1 o1 => hb k F1 H1 σ ρ c1 _ w1 (e.step x1) (wp_imp q fun b c2 q u F2 H2 x2 w2 r2 o2 => by
    have e2 := (e.step x1).step x2
    have r1' := S.step x2 r1
    have e3 : EI k E' F2 H2 (σ.set i (some v)) (put ρ a) := ⟨hp.put e2.r r1', hp.nd e2.nd fun D' z y => absurd (o1 D' z) (E.has e.r y).1⟩
    refine ⟨v, u, rfl, q F2 H2 _ (x1.fz.trans x2.fz) w2 ⟨hp'.put e3.r r2, hp'.nd e3.nd fun D' z y => ?_⟩⟩
    have n1 := o2 D' z
    rcases hp.sub y with y | y
    · exact absurd n1 ((E.has (e.step x1).r y).1)
    · exact absurd n1 (S.has r1 y).1))
end
end PF
set_option maxHeartbeats 400000
namespace PF
open PySem PySem.Spec PyProof.Rows L2 SlX
namespace M
section
variable {α β γ Γ Γ' Δ : Type} {c : Nat} {Q : α → Nat → Prop} {X : Er → Prop}
theorem thn_nx {f : Γ → M (Ct Γ' Δ β)} {ρ : Γ} : thnK f (.nx ρ) = f ρ := id rfl
theorem thn_rt {f : Γ → M (Ct Γ' Δ β)} {b : β} : thnK f (.rt b) = .ret (.rt b) := id rfl
theorem thn_bk {f : Γ → M (Ct Γ' Δ β)} {d : Δ} : thnK f (.bk d) = .ret (.bk d) := id rfl
theorem thn_ct {f : Γ → M (Ct Γ' Δ β)} {d : Δ} : thnK f (.ct d) = .ret (.ct d) := id rfl
theorem fin_rt {b : β} : finK (Γ := Γ) (.rt b) = .ret b := id rfl
theorem finN_rt {b : Unit} : finNK (Γ := Γ) (.rt b) = .ret b := id rfl
theorem finN_nx {ρ : Γ} : finNK (.nx ρ) = .ret () := id rfl
theorem wk {m : M α} {Q Q' : α → Nat → Prop} (h : m.wp c Q X) (k : ∀ a d, Q a d → Q' a d) : m.wp c Q' X := m.mono c k (fun _ z => z) h
def FK (I : Γ → Nat → Prop) (Q : Ct Γ Δ β → Nat → Prop) : Ct Γ Γ β → Nat → Prop
  | .nx ρ, d => I ρ d
  | .ct ρ, d => I ρ d
  | .bk ρ, d => Q (.nx ρ) d
  | .rt b, d => Q (.rt b) d
theorem FK_nx {I : Γ → Nat → Prop} {Q : Ct Γ Δ β → Nat → Prop} {ρ : Γ} {d : Nat} : FK I Q (.nx ρ) d = I ρ d := id rfl
theorem FK_ct {I : Γ → Nat → Prop} {Q : Ct Γ Δ β → Nat → Prop} {ρ : Γ} {d : Nat} : FK I Q (.ct ρ) d = I ρ d := id rfl
theorem FK_bk {I : Γ → Nat → Prop} {Q : Ct Γ Δ β → Nat → Prop} {ρ : Γ} {d : Nat} : FK I Q (.bk ρ) d = Q (.nx ρ) d := id rfl
theorem FK_rt {I : Γ → Nat → Prop} {Q : Ct Γ Δ β → Nat → Prop} {b : β} {d : Nat} : FK I Q (.rt b) d = Q (.rt b) d := id rfl
theorem forM_inv {xs : List α} {f : α → Γ → M (Ct Γ Γ β)} {Q : Ct Γ Δ β → Nat → Prop} (I : Nat → Γ → Nat → Prop) {ρ : Γ} (h0 : I 0 ρ c)
    (hs : ∀ i a ρ c, xs[i]? = some a → I i ρ c → (f a ρ).wp c (fun k d => FK (I (i + 1)) Q k d) X) (hd : ∀ ρ c, I xs.length ρ c → Q (.nx ρ) c) : (M.forM (Δ := Δ) xs f ρ).wp c Q X := by
  induction xs generalizing ρ c I with
  | nil => rw [forM_nil]; exact hd ρ c h0
  | cons x xs ih =>
    rw [forM_cons]
    show (f x ρ).wp c (fun k d => (forK (fun ρ' => M.forM (Δ := Δ) xs f ρ') k).wp d Q X) X
    refine wk (hs 0 x ρ c rfl h0) fun k d z => ?_
    have go : ∀ ρ', I 1 ρ' d → (M.forM (Δ := Δ) xs f ρ').wp d Q X := fun ρ' z => ih (fun i => I (i + 1)) z (fun i a ρ c h => hs (i + 1) a ρ c (by simpa using h)) hd
    cases k with
    | nx ρ' => exact go ρ' z
    | ct ρ' => exact go ρ' z
    | bk ρ' => exact z
    | rt b => exact z
theorem lcM_inv {xs : List α} {f : α → M (Option β)} {Q : List β → Nat → Prop} (I : Nat → List β → Nat → Prop) (h0 : I 0 [] c)
    (hs : ∀ i a ys c, xs[i]? = some a → I i ys c → (f a).wp c (fun o d => I (i + 1) (ys ++ o.toList) d) X) (hd : ∀ ys c, I xs.length ys c → Q ys c) : (M.lcM xs f).wp c Q X := by
  have gen : ∀ (xs : List α) (I : Nat → List β → Nat → Prop) (ys : List β) (c : Nat) (Q : List β → Nat → Prop), I 0 ys c → (∀ i a ys c, xs[i]? = some a → I i ys c → (f a).wp c (fun o d => I (i + 1) (ys ++ o.toList) d) X) →
      (∀ zs c, I xs.length (ys ++ zs) c → Q zs c) → (M.lcM xs f).wp c Q X := by
    intro xs
    induction xs with
    | nil => intro I ys c Q h0 hs hd; rw [lcM_nil]; exact hd [] c (by simpa using h0)
    | cons x xs ih =>
      intro I ys c Q h0 hs hd
      rw [lcM_cons]
      show (f x).wp c (fun o d => (M.lcM xs f).wp d (fun zs e => Q (o.toList ++ zs) e) X) X
      refine wk (hs 0 x ys c rfl h0) fun o d z => ?_
      refine ih (fun i => I (i + 1)) (ys ++ o.toList) d _ z (fun i a ys c h => hs (i + 1) a ys c (by simpa using h)) fun zs e h => ?_
      exact hd _ e (by rw [← List.append_assoc]; exact h)
  exact gen xs I [] c Q h0 hs fun zs c h => hd zs c (by simpa using h)
theorem lcM_map {xs : List α} {f : α → M (Option β)} {g : α → β} {Q : List β → Nat → Prop} (hs : ∀ a ∈ xs, ∀ Q : Option β → Nat → Prop, Q (some (g a)) c → (f a).wp c Q X) (hq : Q (xs.map g) c) : (M.lcM xs f).wp c Q X := by
  refine lcM_inv (fun i ys d => d = c ∧ ys = (xs.take i).map g) ⟨rfl, by simp⟩ (fun i a ys d h ⟨e, ey⟩ => ?_) fun ys d ⟨e, ey⟩ => ?_
  · subst e
    refine hs a (List.mem_of_getElem? h) _ ⟨rfl, ?_⟩
    have hl := (List.getElem?_eq_some_iff.mp h)
    obtain ⟨hl, ha⟩ := hl
    rw [List.take_succ, h, ey]; simp
  · subst e
    rw [List.take_length] at ey
    rw [ey]; exact hq
theorem lcM_filter {xs : List α} {f : α → M (Option β)} {g : α → Option β} {Q : List β → Nat → Prop} (hs : ∀ a ∈ xs, ∀ Q : Option β → Nat → Prop, Q (g a) c → (f a).wp c Q X) (hq : Q (xs.filterMap g) c) : (M.lcM xs f).wp c Q X := by
  refine lcM_inv (fun i ys d => d = c ∧ ys = (xs.take i).filterMap g) ⟨rfl, by simp⟩ (fun i a ys d h ⟨e, ey⟩ => ?_) fun ys d ⟨e, ey⟩ => ?_
  · subst e
    refine hs a (List.mem_of_getElem? h) _ ⟨rfl, ?_⟩
    rw [List.take_succ, h, ey]
    simp only [Option.toList, List.filterMap_append]
    cases e : g a <;> simp [e]
  · subst e
    rw [List.take_length] at ey
    rw [ey]; exact hq
end
end M
theorem rng_len {lo hi : Int} : (rng lo hi).length = (hi - lo).toNat := by rw [rng_eq, List.length_map, List.length_range]
namespace M
def W {α : Type} (m : M α) (c : Nat) (Q : α → Nat → Prop) (X : Er → Prop) : Prop := m.wp c Q X
section
variable {α β γ Γ Γ' Δ : Type} {c : Nat} {Q : α → Nat → Prop} {X : Er → Prop}
theorem to_W {m : M α} : m.wp c Q X = W m c Q X := id rfl
theorem ret_W {a : α} : W (M.ret a) c Q X = Q a c := id rfl
theorem bind_W {m : M β} {f : β → M α} : W (M.bind m f) c Q X = W m c (fun a d => W (f a) d Q X) X := id rfl
theorem need_W {p : Prop} {m : M α} : W (M.need p m) c Q X = (p ∧ W m c Q X) := id rfl
theorem the_W {o : Option α} : W (M.the o) c Q X = ∃ a, o = some a ∧ Q a c := id rfl
theorem ifb_W {b : Bool} {m n : M α} : W (M.ifb b m n) c Q X = if b = true then W m c Q X else W n c Q X := id rfl
theorem anyOf_W {P : α → Prop} : W (M.anyOf P) c Q X = ∀ a, P a → Q a c := id rfl
theorem still_W {m : M α} : W (M.still m) c Q X = W m 0 (fun a _ => Q a c) X := id rfl
theorem roll_W {t : Int} {Q : Int → Nat → Prop} : W (M.roll t) c Q X = (c < 2 ^ 60 ∧ 0 < t ∧ Bd 9000 t ∧ ∀ r, 0 ≤ r → r < t → Q r (c + 1)) := id rfl
theorem pick_W {xs : List α} : W (M.pick xs) c Q X = (c < 2 ^ 60 ∧ 0 < xs.length ∧ xs.length ≤ 1000 ∧ ∀ x ∈ xs, Q x (c + 1)) := id rfl
theorem thn_W {m : M (Ct Γ Δ β)} {f : Γ → M (Ct Γ' Δ β)} {Q : Ct Γ' Δ β → Nat → Prop} : W (M.thn m f) c Q X = W m c (fun k d => W (thnK f k) d Q X) X := id rfl
theorem fin_W {m : M (Ct Γ Unit β)} {Q : β → Nat → Prop} : W (M.fin m) c Q X = W m c (fun k d => W (finK k) d Q X) X := id rfl
theorem finN_W {m : M (Ct Γ Unit Unit)} {Q : Unit → Nat → Prop} : W (M.finN m) c Q X = W m c (fun k d => W (finNK k) d Q X) X := id rfl
theorem none_W : W (M.none : M α) c Q X = False := id rfl
end
end M
end PF
set_option maxHeartbeats 4000000
set_option exponentiation.threshold 20000
namespace PF
open PySem PySem.Spec PyProof.Rows L2 SlX
def spDice (K : PySem.W.Frag) : Sp := fun vs H Q _ => ∃ (a : Addr) (ns : List Int) (s : Int), vs = [.ref a, .int s] ∧ SqL K H a (ns.map V.int) ∧ ns.length ≤ 100 ∧ 0 ≤ s ∧ s ≤ 100 ∧ ∀ p H', Same H H' → H p = none → Dice p H' 0 → Q (.ref p) H'
def spRoll : Sp := fun vs H Q _ => ∃ (p : Addr) (t : Int) (c : Nat), vs = [.ref p, .int t] ∧ Dice p H c ∧ c < 2 ^ 64 ∧ 0 < t ∧ Bd 9000 t ∧ ∀ r H', 0 ≤ r → r < t → SameB p H H' → Dice p H' (c + 1) → Q (.int r) H'
def spPick : Sp := fun vs H Q _ => ∃ (p l : Addr) (xs : List V) (c : Nat), vs = [.ref p, .ref l] ∧ Dice p H c ∧ c < 2 ^ 64 ∧ H l = some (.lst xs) ∧ l ≠ p ∧ 0 < xs.length ∧ xs.length ≤ 1000 ∧ ∀ v H', v ∈ xs → SameB p H H' → Dice p H' (c + 1) → Q v H'
theorem bd_le {i : Int} {n : Nat} (k : Nat) (h : i.natAbs ≤ k) (l : k < 2 ^ n) : Bd n i := Nat.lt_of_le_of_lt h l
theorem bd_mod {i j : Int} {n : Nat} (h : Bd n j) (j0 : 0 < j) : Bd n (i.fmod j) := by
  have e : i.fmod j = i % j := Int.fmod_eq_emod_of_nonneg i (by omega)
  have h1 := Int.emod_nonneg i (show j ≠ 0 by omega)
  have h2 := Int.emod_lt_of_pos i j0
  rw [e]
  exact h.le (by omega)
theorem fmod_range {i j : Int} (j0 : 0 < j) : 0 ≤ i.fmod j ∧ i.fmod j < j := by
  rw [Int.fmod_eq_emod_of_nonneg i (by omega)]
  exact ⟨Int.emod_nonneg i (by omega), Int.emod_lt_of_pos i j0⟩
theorem fdiv_abs {i j : Int} (i0 : 0 ≤ i) (j0 : 0 < j) : 0 ≤ i.fdiv j ∧ (i.fdiv j).natAbs ≤ i.natAbs := by
  rw [Int.fdiv_eq_ediv_of_nonneg i (by omega)]
  have h1 := Int.ediv_nonneg i0 (show 0 ≤ j by omega)
  have h2 := Int.ediv_le_self j i0
  omega
section
variable {P : Program} {w : World} {K : PySem.W.Frag} {mg : Str → Option Value} {base : Heap} {f : Addr} {fd : FuncData}
theorem sc__law_dice : FnScope ["_law_script", "_law_spot", "_law_cell", "_law_left"] ["_law_script", "_law_spot"] (defScope (topS 26)) := ⟨rfl, rfl, rfl, by decide +kernel, rfl, by decide +kernel, by decide +kernel⟩
theorem ok_dice (F : Fun K "_law_dice" "_law_dice" (topS 26) f fd) (fr : Free mg) : FnOk P w K mg base CX0 2 f fd ["_law_script", "_law_spot"] (spDice K) := by
  refine F.ok sc__law_dice (fun vs H Q E ⟨_, _, _, e, _⟩ => by rw [e]; rfl) (fun cdv A outer s H vs Q E hr h => ⟨_, (pss_cons (ps_set (i := 2) sc__law_dice.nd rfl (by first | exact Or.inl rfl | exact Or.inr rfl) (pe_ifExp (pt_cmpR op_lt (pv 1) (pe_callB call_len (by rfl) fr.b_len (by decide +kernel) (pa_cons (pv 0) pa_nil)) (nomark _)) (pe_callTy call_int1 (by rfl) fr.b_int (by decide +kernel) (pa_cons (pe_ix (ix_list : IxR _ (rIxL K)) (pv 0) (pv 1) (fun _ _ => rfl)) pa_nil)) (pe_op op_add (pe_op op_mulX pe_int (pv 1)) pe_int)))
  (pss_cons (ps_set (i := 3) sc__law_dice.nd rfl (by first | exact Or.inl rfl | exact Or.inr rfl) (pe_op op_modN (pe_callB (call_max2 rfl) (by rfl) fr.b_max (by decide +kernel) (pa_cons pe_int (pa_cons (pe_op op_sub (pe_callB call_abs (by rfl) fr.b_abs (by decide +kernel) (pa_cons (pv 2) pa_nil)) (pe_op op_pow pe_int pe_int)) pa_nil))) (pe_op op_mulX (pe_op op_pow pe_int pe_int) (pe_op op_pow pe_int pe_int))))
  (pss_one (ps_ret (pe_lst (pa_cons (pv 3) (pa_cons (pe_op op_add (pe_op op_add (pe_op op_add (pe_op op_mulX (pe_op op_modN (pe_callB call_abs (by rfl) fr.b_abs (by decide +kernel) (pa_cons (pv 2) pa_nil)) pe_int) pe_int) (pe_op op_mulX pe_int (pv 1))) (pe_op op_mulX pe_int (pe_callTy call_int1 (by rfl) fr.b_int (by decide +kernel) (pa_cons (pe_cmpR op_lt (pv 2) pe_int (nomark _)) pa_nil)))) pe_int) (pa_cons pe_int pa_nil)))))))), ?_⟩)
  obtain ⟨a, ns, s, rfl, hS, hl, h0, h100, q⟩ := h
  have bs : Bd 10 s := bd_sm (by omega) (by decide)
  have rest : ∀ c : Int, tSeq (tAsg (tOp (rI (fun _ j => j ≠ 0) fun i j => .int (i.fmod j)) (tCB (fun xs H Q => ∃ i j, xs = [.int i, .int j] ∧ Q (.int (if j > i then j else i)) H) (tCons (tC (.int 0)) (tCons (tOp (rI0 fun i j => .int (i - j)) (tCB (fun xs H Q => ∃ i, xs = [.int i] ∧ Q (.int (if i < 0 then -i else i)) H) (tCons (tVar 2) tNil)) (tOp (rI CPow fun i j => .int (i ^ j.toNat)) (tC (.int 10)) (tC (.int 16)))) tNil)))
      (tOp (rI CMulX fun i j => .int (i * j)) (tOp (rI CPow fun i j => .int (i ^ j.toNat)) (tC (.int 10)) (tC (.int 60))) (tOp (rI CPow fun i j => .int (i ^ j.toNat)) (tC (.int 10)) (tC (.int 60))))) (gName 3))
      (tRet (tLst (tCons (tVar 3) (tCons (tOp (rI0 fun i j => .int (i + j)) (tOp (rI0 fun i j => .int (i + j)) (tOp (rI0 fun i j => .int (i + j)) (tOp (rI CMulX fun i j => .int (i * j)) (tOp (rI (fun _ j => j ≠ 0) fun i j => .int (i.fmod j)) (tCB (fun xs H Q => ∃ i, xs = [.int i] ∧ Q (.int (if i < 0 then -i else i)) H) (tCons (tVar 2) tNil)) (tC (.int 1152921504606846883))) (tC (.int 47)))
        (tOp (rI CMulX fun i j => .int (i * j)) (tC (.int 809)) (tVar 1))) (tOp (rI CMulX fun i j => .int (i * j)) (tC (.int 31)) (tCB (fun xs H Q => (∃ i, xs = [.int i] ∧ Q (.int i) H) ∨ ∃ k, xs = [.bl k] ∧ Q (.int (if k then 1 else 0)) H) (tCons (tOp (rI0 fun i j => .bl (decide (i < j))) (tVar 2) (tC (.int 0))) tNil)))) (tC (.int 7))) (tCons (tC (.int 0)) tNil)))))
      { nx := fun _ H' => Q .non H', rt := Q } [some (.ref a), some (.int s), some (.int c), none] H := fun c => by
    have m1 : Bd 200 ((10 : Int) ^ 60) := bd_le (10 ^ 60) (by decide) (by decide)
    have nz : (10 : Int) ^ 60 * 10 ^ 60 ≠ 0 := by decide
    refine ⟨_, rfl, _, rfl, _, _, rfl, rfl, ⟨by decide, by decide, by decide⟩, _, _, rfl, rfl, _, _, rfl, _, _, rfl, rfl, ⟨by decide, by decide, by decide⟩, _, _, rfl, rfl, ⟨by decide, by decide, by decide⟩, _, _, rfl, rfl, m1.mulx m1 (by decide), _, _, rfl, rfl, nz, ?_⟩
    have km : Bd 61 (((if c < 0 then -c else c) : Int).fmod 1152921504606846883) := bd_mod (bd_le 1152921504606846883 (by decide) (by decide)) (by decide)
    have b47 : Bd 10 47 := bd_sm (by decide) (by decide)
    have b809 : Bd 10 809 := bd_sm (by decide) (by decide)
    have b31 : Bd 10 31 := bd_sm (by decide) (by decide)
    have bk : ∀ k : Bool, Bd 10 (if k then 1 else 0 : Int) := fun k => by cases k <;> exact bd_sm (by decide) (by decide)
    refine ⟨_, rfl, _, rfl, _, rfl, _, _, rfl, rfl, (by decide : (1152921504606846883 : Int) ≠ 0), _, _, rfl, rfl, km.mulx b47 (by decide), _, rfl, _, _, rfl, rfl, b809.mulx bs (by decide), _, _, rfl, rfl, _, rfl, _, _, rfl, rfl, .inr ⟨_, rfl, _, _, rfl, rfl, b31.mulx (bk _) (by decide), _, _, rfl, rfl, _, _, rfl, rfl, ?_⟩⟩
    refine ⟨by show 3 ≤ sizeLine; decide, fun p hp => q p _ (same_upd hp) hp ⟨_, _, _, upd_same, ?_, ?_, ?_, by decide, by decide⟩⟩
    · exact (fmod_range (by decide)).1
    · exact (bd_mod (m1.mul m1) (by decide)).mono (by decide)
    · refine Bd.add (n := 199) ?_ (bd_sm (by decide) (by decide)) rfl
      refine Bd.add (n := 198) ?_ ((b31.mul (bk _)).mono (by decide)) rfl
      exact Bd.add (n := 197) ((km.mul b47).mono (by decide)) ((b809.mul bs).mono (by decide)) rfl
  refine ⟨_, rfl, _, rfl, _, (ns.map V.int).length, rfl, Or.inl ⟨_, hS, rfl⟩, _, _, rfl, rfl, _, rfl, ite_dec (fun c => ?_) fun c => ?_⟩
  · rw [List.length_map] at c
    obtain ⟨j, rfl⟩ : ∃ j : Nat, s = (j : Int) := ⟨s.toNat, by omega⟩
    have hj : j < ns.length := by omega
    have g : (ns.map V.int)[j]? = some (.int ns[j]) := by rw [List.getElem?_map, List.getElem?_eq_getElem hj]; rfl
    exact ⟨_, rfl, _, rfl, a, _, _, _, rfl, rfl, hS, atI_nat g, .inl ⟨_, rfl, rest _⟩⟩
  · have b67 : Bd 10 67 := bd_sm (by decide) (by decide)
    exact ⟨_, rfl, _, _, rfl, rfl, b67.mulx bs (by decide), _, _, rfl, rfl, rest _⟩
theorem sc__law_roll : FnScope ["_law_dice_here", "_law_total", "_law_found", "_law_one", "_law_two"] ["_law_dice_here", "_law_total"] (defScope (topS 27)) := ⟨rfl, rfl, rfl, by decide +kernel, rfl, by decide +kernel, by decide +kernel⟩
theorem ok_roll (F : Fun K "_law_roll" "_law_roll" (topS 27) f fd) (fr : Free mg) : FnOk P w K mg base CX0 2 f fd ["_law_dice_here", "_law_total"] spRoll := by
  refine F.ok sc__law_roll (fun vs H Q E ⟨_, _, _, e, _⟩ => by rw [e]; rfl) (fun cdv A outer s H vs Q E hr h => ⟨_, (pss_cons (ps_if (pt_cmpR op_gt (pe_ix (ix_list : IxR _ (rIxL K)) (pv 0) pe_int (fun _ _ => rfl)) pe_int (nomark _)) (pss_cons (ps_set (i := 2) sc__law_roll.nd rfl (by first | exact Or.inl rfl | exact Or.inr rfl) (pe_op op_modN (pe_callTy call_int1 (by rfl) fr.b_int (by decide +kernel) (pa_cons (pe_ix (ix_list : IxR _ (rIxL K)) (pv 0) pe_int (fun _ _ => rfl)) pa_nil)) (pv 1)))
  (pss_cons (ps_asg (pe_op op_fdivZ (pe_ix (ix_list : IxR _ (rIxL K)) (pv 0) pe_int (fun _ _ => rfl)) (pv 1)) (pg_sub (pv 0) pe_int set_list))
  (pss_one (ps_ret (pv 2))))) pss_nil)
  (pss_cons (ps_asg (pe_op op_add (pe_ix (ix_list : IxR _ (rIxL K)) (pv 0) pe_int (fun _ _ => rfl)) pe_int) (pg_sub (pv 0) pe_int set_list))
  (pss_cons (ps_set (i := 3) sc__law_roll.nd rfl (by first | exact Or.inl rfl | exact Or.inr rfl) (pe_op op_modN (pe_callTy call_int1 (by rfl) fr.b_int (by decide +kernel) (pa_cons (pe_op op_add (pe_ix (ix_list : IxR _ (rIxL K)) (pv 0) pe_int (fun _ _ => rfl)) (pe_op op_mulX pe_int (pe_ix (ix_list : IxR _ (rIxL K)) (pv 0) pe_int (fun _ _ => rfl)))) pa_nil)) pe_int))
  (pss_cons (ps_set (i := 4) sc__law_roll.nd rfl (by first | exact Or.inl rfl | exact Or.inr rfl) (pe_op op_add (pe_op op_mulX (pe_op op_modN (pe_callTy call_int1 (by rfl) fr.b_int (by decide +kernel) (pa_cons (pe_op op_add (pe_op op_mulX (pv 3) (pv 3)) (pe_op op_mulX pe_int (pe_ix (ix_list : IxR _ (rIxL K)) (pv 0) pe_int (fun _ _ => rfl)))) pa_nil)) pe_int) pe_int) (pv 3)))
  (pss_one (ps_ret (pe_op op_modN (pe_callTy call_int1 (by rfl) fr.b_int (by decide +kernel) (pa_cons (pe_op op_fdivZ (pv 4) pe_int) pa_nil)) (pv 1)))))))), ?_⟩)
  obtain ⟨p, t, c, rfl, ⟨d0, d1, d2, hp, p0, b0, b1, p2, l2⟩, hc, t0, bt, q⟩ := h
  have g0 : ∀ x y z : V, atI [x, y, z] 0 = some x := fun x y z => atI_nat (j := 0) rfl
  have g1 : ∀ x y z : V, atI [x, y, z] 1 = some y := fun x y z => atI_nat (j := 1) rfl
  have g2 : ∀ x y z : V, atI [x, y, z] 2 = some z := fun x y z => atI_nat (j := 2) rfl
  refine ⟨_, rfl, p, _, _, _, rfl, rfl, .of hp, g0 _ _ _, _, _, rfl, rfl, _, rfl, ite_dec (fun c0 => ?_) fun c0 => ?_⟩
  · obtain ⟨r1, r2⟩ := fmod_range (i := d0) t0
    obtain ⟨r3, r4⟩ := fdiv_abs p0 t0
    refine ⟨_, rfl, p, _, _, _, rfl, rfl, .of hp, g0 _ _ _, .inl ⟨_, rfl, _, rfl, _, _, rfl, rfl, (by omega : t ≠ 0), _, rfl, p, _, _, _, rfl, rfl, .of hp, g0 _ _ _, _, rfl, _, _, rfl, rfl, bt.dvz (by omega) (Nat.le_refl _), _, rfl, p, _, _, 0, rfl, rfl, hp, rfl, _, rfl, ?_⟩⟩
    refine q _ _ r1 r2 (SameB.refl p H).upd ⟨_, _, _, upd_same, r3, b0.le r4, b1, p2, by omega⟩
  refine ⟨_, rfl, p, _, _, _, rfl, rfl, .of hp, g2 _ _ _, _, _, rfl, rfl, _, rfl, p, _, _, 2, rfl, rfl, hp, rfl, ?_⟩
  have hq : upd H p (.lst ([V.int d0, .int d1, .int d2].set 2 (.int (d2 + 1)))) p = some (.lst [.int d0, .int d1, .int (d2 + 1)]) := upd_same
  generalize hG : upd H p (.lst ([V.int d0, .int d1, .int d2].set 2 (.int (d2 + 1)))) = G at hq ⊢
  have sG : SameB p H G := by rw [← hG]; exact (SameB.refl p H).upd
  have bd2 : Bd 100 (d2 + 1) := bd_le (2 ^ 64) (by omega) (by decide)
  have bk : Bd 26 32452843 := bd_le 32452843 (by decide) (by decide)
  have b97 : Bd 10 97 := bd_sm (by decide) (by decide)
  refine ⟨_, rfl, p, _, _, _, rfl, rfl, .of hq, g1 _ _ _, _, rfl, p, _, _, _, rfl, rfl, .of hq, g2 _ _ _, _, _, rfl, rfl, bk.mulx bd2 (by decide), _, _, rfl, rfl, .inl ⟨_, rfl, _, _, rfl, rfl, (by decide : (2305843009213693951 : Int) ≠ 0), ?_⟩⟩
  have bo := bd_mod (i := d1 + 32452843 * (d2 + 1)) (j := 2305843009213693951) (n := 62) (bd_le 2305843009213693951 (by decide) (by decide)) (by decide)
  have bt2 := fun i : Int => bd_mod (i := i) (j := 2305843009213693921) (n := 62) (bd_le 2305843009213693921 (by decide) (by decide)) (by decide)
  have b7 : Bd 23 7368787 := bd_le 7368787 (by decide) (by decide)
  refine ⟨_, rfl, _, rfl, _, _, rfl, rfl, bo.mulx bo (by decide), _, rfl, p, _, _, _, rfl, rfl, .of hq, g2 _ _ _, _, _, rfl, rfl, b97.mulx bd2 (by decide), _, _, rfl, rfl, .inl ⟨_, rfl, _, _, rfl, rfl, (by decide : (2305843009213693921 : Int) ≠ 0), _, _, rfl, rfl, (bt2 _).mulx b7 (by decide), _, rfl, _, _, rfl, rfl, ?_⟩⟩
  have b6 : Bd 17 65536 := bd_le 65536 (by decide) (by decide)
  refine ⟨_, rfl, _, _, rfl, rfl, b6.dvz (by decide) (by decide), .inl ⟨_, rfl, _, rfl, _, _, rfl, rfl, (by omega : t ≠ 0), ?_⟩⟩
  exact q _ _ (fmod_range t0).1 (fmod_range t0).2 sG ⟨_, _, _, hq, p0, b0, b1, by omega, by omega⟩
theorem sc__law_pick : FnScope ["_law_dice_here", "_law_items"] ["_law_dice_here", "_law_items"] (defScope (topS 28)) := ⟨rfl, rfl, rfl, by decide +kernel, rfl, by decide +kernel, by decide +kernel⟩
theorem ok_pick (F : Fun K "_law_pick" "_law_pick" (topS 28) f fd) (fr : Free mg) (G__law_roll : GD P w K mg base "_law_roll" 2 spRoll) : FnOk P w K mg base CX0 3 f fd ["_law_dice_here", "_law_items"] spPick := by
  refine F.ok sc__law_pick (fun vs H Q E ⟨_, _, _, _, e, _⟩ => by rw [e]; rfl) (fun cdv A outer s H vs Q E hr h => ⟨_, (pss_one (ps_ret (pe_ix (ix_list : IxR _ (rIxL K)) (pv 1) (pe_c1 G__law_roll (hr.mono (by decide)) (pa_cons (pv 0) (pa_cons (pe_callB call_len (by rfl) fr.b_len (by decide +kernel) (pa_cons (pv 1) pa_nil)) pa_nil))) (fun _ _ => rfl)))), ?_⟩)
  obtain ⟨p, l, xs, c, rfl, hd, hc, hl, ne, h0, h1, q⟩ := h
  refine ⟨_, rfl, _, rfl, _, rfl, _, xs.length, rfl, .inl ⟨_, .of hl, rfl⟩, p, _, c, rfl, hd, hc, by omega, bd_le 1000 (by omega) (by decide), fun r H' r0 r1 s1 hd' => ?_⟩
  obtain ⟨j, rfl⟩ : ∃ j : Nat, r = (j : Int) := ⟨r.toNat, by omega⟩
  have hj : j < xs.length := by omega
  exact ⟨l, xs, _, _, rfl, rfl, .of (s1 _ _ ne hl), atI_nat (List.getElem?_eq_getElem hj), q _ _ (List.getElem_mem hj) s1 hd'⟩
end
end PF
namespace PF
theorem gcd3_pos {t p b : Int} (h : b ≠ 0) : 0 < gcd3 t p b := by
  unfold gcd3
  have : 0 < Nat.gcd (Nat.gcd t.natAbs p.natAbs) b.natAbs := Nat.gcd_pos_of_pos_right _ (by omega)
  omega
theorem share_dvd {t p b : Int} : share t p b ∣ t ∧ share t p b ∣ p ∧ share t p b ∣ b := by
  have h : gcd3 t p b ∣ t ∧ gcd3 t p b ∣ p ∧ gcd3 t p b ∣ b := by
    unfold gcd3
    refine ⟨?_, ?_, ?_⟩
    · exact Int.ofNat_dvd_left.mpr (Nat.dvd_trans (Nat.gcd_dvd_left _ _) (Nat.gcd_dvd_left _ _))
    · exact Int.ofNat_dvd_left.mpr (Nat.dvd_trans (Nat.gcd_dvd_left _ _) (Nat.gcd_dvd_right _ _))
    · exact Int.ofNat_dvd_left.mpr (Nat.gcd_dvd_right _ _)
  unfold share
  split
  · exact h
  · exact ⟨Int.neg_dvd.mpr h.1, Int.neg_dvd.mpr h.2.1, Int.neg_dvd.mpr h.2.2⟩
theorem fdiv_mul {a s : Int} (h : s ∣ a) : a.fdiv s * s = a := Int.fdiv_mul_cancel h
theorem mkNm_val (t p r : Int) {b : Int} (h : b ≠ 0) : (mkNm t p r b).t * b = t * (mkNm t p r b).b ∧ (mkNm t p r b).p * b = p * (mkNm t p r b).b ∧ 0 < (mkNm t p r b).b := by
  obtain ⟨h1, h2, h3⟩ := share_dvd (t := t) (p := p) (b := b)
  have s0 := share_ne (t := t) (p := p) h
  have e1 := fdiv_mul h1
  have e2 := fdiv_mul h2
  have e3 := fdiv_mul h3
  have hs : 0 < b ↔ 0 < share t p b := by
    unfold share
    have := gcd3_pos (t := t) (p := p) h
    split <;> omega
  show t.fdiv (share t p b) * b = t * b.fdiv (share t p b) ∧ p.fdiv (share t p b) * b = p * b.fdiv (share t p b) ∧ 0 < b.fdiv (share t p b)
  generalize share t p b = s at *
  generalize t.fdiv s = t1 at *
  generalize p.fdiv s = p1 at *
  generalize b.fdiv s = b1 at *
  subst e1 e2 e3
  refine ⟨by grind, by grind, ?_⟩
  rcases Int.lt_trichotomy b1 0 with c | c | c
  · rcases Int.lt_trichotomy s 0 with d | d | d
    · have := Int.mul_pos_of_neg_of_neg c d; omega
    · omega
    · have := Int.mul_neg_of_neg_of_pos c d; omega
  · subst c; simp at h
  · exact c
structure Nrm (n : Nm) : Prop where
  b : 0 < n.b
  g : gcd3 n.t n.p n.b = 1
  r : n.p = 0 → n.r = 0
theorem gcd3_mul (t p b : Int) (s : Int) : gcd3 (t * s) (p * s) (b * s) = gcd3 t p b * s.natAbs := by
  unfold gcd3
  rw [Int.natAbs_mul, Int.natAbs_mul, Int.natAbs_mul, Nat.gcd_mul_right, Nat.gcd_mul_right]
  simp
theorem mkNm_nrm (t p r : Int) {b : Int} (h : b ≠ 0) : Nrm (mkNm t p r b) := by
  obtain ⟨h1, h2, h3⟩ := share_dvd (t := t) (p := p) (b := b)
  have s0 := share_ne (t := t) (p := p) h
  have e1 := fdiv_mul h1
  have e2 := fdiv_mul h2
  have e3 := fdiv_mul h3
  have ab : ((share t p b).natAbs : Int) = gcd3 t p b := by
    have := gcd3_pos (t := t) (p := p) h
    unfold share
    split <;> omega
  refine ⟨(mkNm_val t p r h).2.2, ?_, ?_⟩
  · show gcd3 (t.fdiv (share t p b)) (p.fdiv (share t p b)) (b.fdiv (share t p b)) = 1
    have k := gcd3_mul (t.fdiv (share t p b)) (p.fdiv (share t p b)) (b.fdiv (share t p b)) (share t p b)
    rw [e1, e2, e3, ab] at k
    have g0 := gcd3_pos (t := t) (p := p) h
    have z : (gcd3 (t.fdiv (share t p b)) (p.fdiv (share t p b)) (b.fdiv (share t p b)) - 1) * gcd3 t p b = 0 := by
      rw [Int.sub_mul, ← k]; omega
    rcases Int.mul_eq_zero.mp z with z | z <;> omega
  · intro hp
    show (if p = 0 then 0 else r) = 0
    rw [if_pos]
    have hp' : p.fdiv (share t p b) = 0 := hp
    rw [hp'] at e2
    omega
theorem nrm_ext {a c : Nm} (ha : Nrm a) (hc : Nrm c) (h1 : a.t * c.b = c.t * a.b) (h2 : a.p * c.b = c.p * a.b) (h3 : a.p ≠ 0 → a.r = c.r) : a = c := by
  have gb := ha.b
  have gc := hc.b
  have k1 : gcd3 (a.t * c.b) (a.p * c.b) (a.b * c.b) = c.b := by
    rw [gcd3_mul, ha.g]; omega
  have k2 : gcd3 (c.t * a.b) (c.p * a.b) (c.b * a.b) = a.b := by
    rw [gcd3_mul, hc.g]; omega
  have e : a.b = c.b := by
    rw [h1, h2, Int.mul_comm a.b c.b] at k1
    exact k2.symm.trans k1
  obtain ⟨at_, ap, ar, ab⟩ := a
  obtain ⟨ct, cp, cr, cb⟩ := c
  dsimp only at *
  subst e
  have e1 : at_ = ct := Int.eq_of_mul_eq_mul_right (by omega) h1
  have e2 : ap = cp := Int.eq_of_mul_eq_mul_right (by omega) h2
  subst e1 e2
  by_cases c : ap = 0
  · have := ha.r c; have := hc.r c; simp_all
  · rw [show ar = cr from h3 c]
theorem mkNm_self {n : Nm} (h : Nrm n) : mkNm n.t n.p n.r n.b = n := by
  have b0 : n.b ≠ 0 := by have := h.b; omega
  refine nrm_ext (mkNm_nrm _ _ _ b0) h (mkNm_val n.t n.p n.r b0).1 (mkNm_val n.t n.p n.r b0).2.1 fun hp => ?_
  show (if n.p = 0 then 0 else n.r) = n.r
  split
  · next c => exact (h.r c).symm
  · rfl
structure Rt (R : Int) (n : Nm) (t p b : Int) : Prop where
  nrm : Nrm n
  b0 : b ≠ 0
  vt : n.t * b = t * n.b
  vp : n.p * b = p * n.b
  root : n.p ≠ 0 → n.r = R
theorem Rt.mk' {R t p b : Int} {r : Int} (h : b ≠ 0) (hr : p ≠ 0 → r = R) : Rt R (mkNm t p r b) t p b := by
  obtain ⟨v1, v2, v3⟩ := mkNm_val t p r h
  refine ⟨mkNm_nrm t p r h, h, v1, v2, fun hp => ?_⟩
  show (if p = 0 then 0 else r) = R
  split
  · next c =>
    subst c
    rcases Int.mul_eq_zero.mp (show (mkNm t 0 r b).p * b = 0 by simpa using v2) with q | q
    · exact absurd q hp
    · exact absurd q h
  · next c => exact hr c
theorem Rt.self {R : Int} {n : Nm} (h : Nrm n) (hr : n.p ≠ 0 → n.r = R) : Rt R n n.t n.p n.b := ⟨h, by have := h.b; omega, rfl, rfl, hr⟩
theorem Rt.uniq {R t p b t' p' b' : Int} {n m : Nm} (h : Rt R n t p b) (k : Rt R m t' p' b') (e1 : t * b' = t' * b) (e2 : p * b' = p' * b) : n = m := by
  have gb := h.nrm.b
  have gc := k.nrm.b
  have hb : b * b' ≠ 0 := Int.mul_ne_zero h.b0 k.b0
  have q1 := h.vt
  have q2 := h.vp
  have q3 := k.vt
  have q4 := k.vp
  have x2 : n.p * m.b = m.p * n.b := by
    refine Int.eq_of_mul_eq_mul_right hb ?_
    grind
  refine nrm_ext h.nrm k.nrm (Int.eq_of_mul_eq_mul_right hb (by grind)) x2 fun hp => ?_
  have mp : m.p ≠ 0 := fun z => by
    rw [z] at x2
    rcases Int.mul_eq_zero.mp (show n.p * m.b = 0 by simpa using x2) with q | q
    · exact hp q
    · omega
  rw [h.root hp, k.root mp]
section
variable {R ta pa ba tb pb bb : Int} {a b : Nm}
theorem cRoot_of (h : Rt R a ta pa ba) (k : Rt R b tb pb bb) (hp : a.p ≠ 0 ∨ b.p ≠ 0) (hR : R ≠ 0) : cRoot a b = R := by
  unfold cRoot
  split
  · next c =>
    rcases hp with hp | hp
    · exact absurd ((h.root hp).symm.trans c) hR
    · exact k.root hp
  · next c =>
    refine h.root fun z => c (h.nrm.r z)
theorem Rt.bnz (h : Rt R a ta pa ba) (k : Rt R b tb pb bb) : a.b * b.b ≠ 0 := Int.mul_ne_zero (by have := h.nrm.b; omega) (by have := k.nrm.b; omega)
theorem Rt.zero (h : Rt 0 a ta pa ba) (hz : ∀ n : Nm, n = a → n.p ≠ 0 → n.r ≠ 0) : a.p = 0 := Classical.byContradiction fun hp => hz a rfl hp (h.root hp)
theorem Rt.cm (h : Rt R a ta pa ba) (k : Rt R b tb pb bb) : Cm a b := by
  unfold Cm
  by_cases c : a.p = 0
  · exact .inl (h.nrm.r c)
  by_cases d : b.p = 0
  · exact .inr (.inl (k.nrm.r d))
  · exact .inr (.inr ((h.root c).trans (k.root d).symm))
theorem cRoot_p (h : Rt R a ta pa ba) (k : Rt R b tb pb bb) (hz : R = 0 → a.p = 0 ∧ b.p = 0) : cRoot a b * a.p = R * a.p ∧ cRoot a b * b.p = R * b.p := by
  by_cases hR : R = 0
  · obtain ⟨z1, z2⟩ := hz hR
    rw [z1, z2]; simp
  · refine ⟨?_, ?_⟩
    · by_cases c : a.p = 0
      · rw [c]; simp
      · rw [cRoot_of h k (.inl c) hR]
    · by_cases c : b.p = 0
      · rw [c]; simp
      · rw [cRoot_of h k (.inr c) hR]
variable (hz : R = 0 → a.p = 0 ∧ b.p = 0)
include hz
theorem Rt.add (h : Rt R a ta pa ba) (k : Rt R b tb pb bb) : Rt R (addN a b) (ta * bb + tb * ba) (pa * bb + pb * ba) (ba * bb) := by
  have hb := Int.mul_ne_zero h.b0 k.b0
  have e : Rt R (addN a b) (a.t * b.b + b.t * a.b) (a.p * b.b + b.p * a.b) (a.b * b.b) := Rt.mk' (h.bnz k) fun hp => by
    by_cases hR : R = 0
    · obtain ⟨z1, z2⟩ := hz hR; exact absurd (by rw [z1, z2]; simp) hp
    refine cRoot_of h k (Classical.byContradiction fun c => ?_) hR
    have c1 : a.p = 0 := Classical.byContradiction fun z => c (.inl z)
    have c2 : b.p = 0 := Classical.byContradiction fun z => c (.inr z)
    exact hp (by rw [c1, c2]; simp)
  obtain ⟨n, _, v1, v2, r⟩ := e
  have q1 := h.vt
  have q2 := h.vp
  have q3 := k.vt
  have q4 := k.vp
  have nz := h.bnz k
  refine ⟨n, hb, Int.eq_of_mul_eq_mul_right nz ?_, Int.eq_of_mul_eq_mul_right nz ?_, r⟩ <;> grind
theorem Rt.sub (h : Rt R a ta pa ba) (k : Rt R b tb pb bb) : Rt R (subN a b) (ta * bb - tb * ba) (pa * bb - pb * ba) (ba * bb) := by
  have hb := Int.mul_ne_zero h.b0 k.b0
  have e : Rt R (subN a b) (a.t * b.b - b.t * a.b) (a.p * b.b - b.p * a.b) (a.b * b.b) := Rt.mk' (h.bnz k) fun hp => by
    by_cases hR : R = 0
    · obtain ⟨z1, z2⟩ := hz hR; exact absurd (by rw [z1, z2]; simp) hp
    refine cRoot_of h k (Classical.byContradiction fun c => ?_) hR
    have c1 : a.p = 0 := Classical.byContradiction fun z => c (.inl z)
    have c2 : b.p = 0 := Classical.byContradiction fun z => c (.inr z)
    exact hp (by rw [c1, c2]; simp)
  obtain ⟨n, _, v1, v2, r⟩ := e
  have q1 := h.vt
  have q2 := h.vp
  have q3 := k.vt
  have q4 := k.vp
  have nz := h.bnz k
  refine ⟨n, hb, Int.eq_of_mul_eq_mul_right nz ?_, Int.eq_of_mul_eq_mul_right nz ?_, r⟩ <;> grind
theorem Rt.mul (h : Rt R a ta pa ba) (k : Rt R b tb pb bb) : Rt R (mulN a b) (ta * tb + pa * pb * R) (ta * pb + pa * tb) (ba * bb) := by
  have hb := Int.mul_ne_zero h.b0 k.b0
  have e : Rt R (mulN a b) (a.t * b.t + a.p * b.p * cRoot a b) (a.t * b.p + a.p * b.t) (a.b * b.b) := Rt.mk' (h.bnz k) fun hp => by
    by_cases hR : R = 0
    · obtain ⟨z1, z2⟩ := hz hR; exact absurd (by rw [z1, z2]; simp) hp
    refine cRoot_of h k (Classical.byContradiction fun c => ?_) hR
    have c1 : a.p = 0 := Classical.byContradiction fun z => c (.inl z)
    have c2 : b.p = 0 := Classical.byContradiction fun z => c (.inr z)
    exact hp (by rw [c1, c2]; simp)
  obtain ⟨n, _, v1, v2, r⟩ := e
  have q1 := h.vt
  have q2 := h.vp
  have q3 := k.vt
  have q4 := k.vp
  have nz := h.bnz k
  have cp := (cRoot_p h k hz).1
  have v1' : (mulN a b).t * (a.b * b.b) = (a.t * b.t + a.p * b.p * R) * (mulN a b).b := by rw [v1]; grind
  refine ⟨n, hb, Int.eq_of_mul_eq_mul_right nz ?_, Int.eq_of_mul_eq_mul_right nz ?_, r⟩ <;> grind
theorem sizeN_eq (h : Rt R a ta pa ba) (k : Rt R b tb pb bb) : sizeN a b = b.t * b.t - b.p * b.p * R := by
  have cp := (cRoot_p h k hz).2
  unfold sizeN
  grind
theorem Rt.over (h : Rt R a ta pa ba) (k : Rt R b tb pb bb) (s0 : sizeN a b ≠ 0) : Rt R (overN a b) ((a.t * b.t - a.p * b.p * R) * b.b) ((a.p * b.t - a.t * b.p) * b.b) (sizeN a b * a.b) := by
  have cp := (cRoot_p h k hz).1
  have e : Rt R (overN a b) ((a.t * b.t - a.p * b.p * cRoot a b) * b.b) ((a.p * b.t - a.t * b.p) * b.b) (sizeN a b * a.b) := Rt.mk' (Int.mul_ne_zero s0 (by have := h.nrm.b; omega)) fun hp => by
    by_cases hR : R = 0
    · obtain ⟨z1, z2⟩ := hz hR; exact absurd (by rw [z1, z2]; simp) hp
    refine cRoot_of h k (Classical.byContradiction fun c => ?_) hR
    have c1 : a.p = 0 := Classical.byContradiction fun z => c (.inl z)
    have c2 : b.p = 0 := Classical.byContradiction fun z => c (.inr z)
    exact hp (by rw [c1, c2]; simp)
  have e2 : (a.t * b.t - a.p * b.p * R) * b.b = (a.t * b.t - a.p * b.p * cRoot a b) * b.b := by grind
  rw [e2]
  exact e
end
structure Okn (R : Int) (n : Nm) : Prop where
  nrm : Nrm n
  root : n.p ≠ 0 → n.r = R
  zero : R = 0 → n.p = 0
def okR (R : Int) : Prop := R = 0 ∨ isRootB R = true
theorem root_parts {R : Int} (h : isRootB R = true) : 2 ≤ R ∧ R ≤ 999 ∧ ∀ i : Nat, i < isq R.toNat - 1 → R.fmod ((2 + (i : Int)) * (2 + (i : Int))) ≠ 0 := by
  unfold isRootB at h
  obtain ⟨h12, h3⟩ := Bool.and_eq_true_iff.mp h
  obtain ⟨h1, h2⟩ := Bool.and_eq_true_iff.mp h12
  refine ⟨of_decide_eq_true h1, of_decide_eq_true h2, fun i hi z => ?_⟩
  have k := List.all_eq_true.mp h3 (!decide (R.fmod ((2 + (i : Int)) * (2 + (i : Int))) = 0)) (List.mem_map.mpr ⟨i, List.mem_range.mpr hi, rfl⟩)
  rw [decide_eq_true z] at k
  exact absurd k (by decide)
theorem sq_dvd {x y r : Nat} (y0 : y ≠ 0) (h : x * x = y * y * r) : ∃ z, z * z = r := by
  have g0 : 0 < Nat.gcd x y := Nat.gcd_pos_of_pos_right _ (by omega)
  obtain ⟨a, ha⟩ := Nat.gcd_dvd_left x y
  obtain ⟨b, hb⟩ := Nat.gcd_dvd_right x y
  have co : Nat.Coprime a b := by
    have k : Nat.gcd (Nat.gcd x y * a) (Nat.gcd x y * b) = Nat.gcd x y := by rw [← ha, ← hb]
    rw [Nat.gcd_mul_left] at k
    exact Nat.eq_of_mul_eq_mul_left g0 (by rw [k, Nat.mul_one])
  generalize Nat.gcd x y = g at *
  subst ha hb
  have e : a * a = b * b * r := Nat.eq_of_mul_eq_mul_left (Nat.mul_pos g0 g0) (by grind)
  have c2 : Nat.Coprime (b * b) (a * a) := (Nat.Coprime.mul_left (co.mul_right co) (co.mul_right co)).symm
  have one : b * b = 1 := Nat.Coprime.eq_one_of_dvd c2 ⟨r, e⟩
  exact ⟨a, by rw [e, one, Nat.one_mul]⟩
theorem irr {R x y : Int} (hR : okR R) (r0 : R ≠ 0) (y0 : y ≠ 0) : x * x ≠ y * y * R := fun h => by
  have key : x.natAbs * x.natAbs = y.natAbs * y.natAbs * R.natAbs := by
    rw [← Int.natAbs_mul, ← Int.natAbs_mul, ← Int.natAbs_mul, h]
  obtain ⟨z, hz⟩ := sq_dvd (by omega) key
  obtain ⟨h2, _, h3⟩ := root_parts (hR.resolve_left r0)
  have z2 : 2 ≤ z := by
    refine Nat.le_of_not_lt fun k => ?_
    have := Nat.mul_le_mul (show z ≤ 1 by omega) (show z ≤ 1 by omega)
    omega
  have zr : z ≤ isq R.toNat := le_isq (by omega)
  refine h3 (z - 2) (by omega) ?_
  have e : (2 : Int) + ((z - 2 : Nat) : Int) = (z : Int) := by omega
  have eR : R = (z : Int) * (z : Int) := by
    have : ((z * z : Nat) : Int) = R := by omega
    rw [← this, Int.natCast_mul]
  rw [e, ← eR]
  exact Int.fmod_self
theorem okR_nn {R : Int} (h : okR R) : 0 ≤ R ∧ R ≤ 999 := by
  rcases h with rfl | h
  · decide
  · obtain ⟨h1, h2, _⟩ := root_parts h
    omega
theorem okR_bd {R : Int} (h : okR R) : Bd 10 R := bd_sm (by have := okR_nn h; omega) (by decide)
section
variable {R : Int} {n a b c : Nm}
theorem Okn.r0 (h : Okn R n) (hR : okR R) : 0 ≤ n.r := by
  by_cases c : n.p = 0
  · rw [h.nrm.r c]; exact Int.le_refl 0
  · rw [h.root c]; exact (okR_nn hR).1
theorem Okn.rb (h : Okn R n) (hR : okR R) : Bd 10 n.r := by
  by_cases c : n.p = 0
  · rw [h.nrm.r c]; exact bd_sm (by decide) (by decide)
  · rw [h.root c]; exact okR_bd hR
theorem Okn.rt (h : Okn R n) : Rt R n n.t n.p n.b := Rt.self h.nrm h.root
theorem Okn.hz (h : Okn R a) (k : Okn R b) : R = 0 → a.p = 0 ∧ b.p = 0 := fun z => ⟨h.zero z, k.zero z⟩
theorem Okn.cm (h : Okn R a) (k : Okn R b) : Cm a b := h.rt.cm k.rt
theorem Okn.irr (h : Okn R n) (hR : okR R) {x y : Int} (e : y ≠ 0 → n.p ≠ 0) : y ≠ 0 → x * x ≠ y * y * n.r := fun y0 => by
  have p0 := e y0
  rw [h.root p0]
  exact PF.irr hR (fun z => p0 (h.zero z)) y0
theorem Okn.gd (h : Okn R n) (hR : okR R) {k : Nat} (bt : Bd k n.t) (bp : Bd k n.p) (bb : Bd k n.b) : Gd k n := ⟨by have := h.nrm.b; omega, bt, bp, bb, h.rb hR, h.r0 hR⟩
theorem Rt.okn {t p d : Int} (h : Rt R n t p d) (z : R = 0 → n.p = 0) : Okn R n := ⟨h.nrm, h.root, z⟩
theorem Rt.pz {t p d : Int} (h : Rt R n t p d) (z : p = 0) : n.p = 0 := by
  have := h.vp
  rw [z, Int.zero_mul] at this
  exact (Int.mul_eq_zero.mp this).resolve_right h.b0
theorem Okn.add (h : Okn R a) (k : Okn R b) : Rt R (addN a b) (a.t * b.b + b.t * a.b) (a.p * b.b + b.p * a.b) (a.b * b.b) := Rt.add (h.hz k) h.rt k.rt
theorem Okn.sub (h : Okn R a) (k : Okn R b) : Rt R (subN a b) (a.t * b.b - b.t * a.b) (a.p * b.b - b.p * a.b) (a.b * b.b) := Rt.sub (h.hz k) h.rt k.rt
theorem Okn.mul (h : Okn R a) (k : Okn R b) : Rt R (mulN a b) (a.t * b.t + a.p * b.p * R) (a.t * b.p + a.p * b.t) (a.b * b.b) := Rt.mul (h.hz k) h.rt k.rt
theorem Okn.subk (h : Okn R a) (k : Okn R b) : Okn R (subN a b) := (h.sub k).okn fun z => (h.sub k).pz (by rw [h.zero z, k.zero z]; simp)
theorem Okn.size (h : Okn R a) (k : Okn R b) (hR : okR R) (nz : ¬ (b.t = 0 ∧ b.p = 0)) : sizeN a b ≠ 0 := by
  rw [sizeN_eq (h.hz k) h.rt k.rt]
  by_cases c : b.p = 0
  · have t0 : b.t ≠ 0 := fun z => nz ⟨z, c⟩
    rw [c]
    have := Int.mul_ne_zero t0 t0
    omega
  · have := PF.irr (x := b.t) hR (fun z => c (k.zero z)) c
    omega
theorem Okn.over (h : Okn R a) (k : Okn R b) (s0 : sizeN a b ≠ 0) : Rt R (overN a b) ((a.t * b.t - a.p * b.p * R) * b.b) ((a.p * b.t - a.t * b.p) * b.b) (sizeN a b * a.b) := Rt.over (h.hz k) h.rt k.rt s0
theorem Okn.mk' {t p r d : Int} (h : d ≠ 0) (hr : p ≠ 0 → r = R) (z : R = 0 → p = 0) : Okn R (mkNm t p r d) := (Rt.mk' h hr).okn fun y => (Rt.mk' (R := R) (t := t) h hr).pz (z y)
def lAddN (a b : Nm) (r : Int) : Nm := mkNm (a.t * b.b + b.t * a.b) (a.p * b.b + b.p * a.b) r (a.b * b.b)
def lMulN (a b : Nm) (r : Int) : Nm := mkNm (a.t * b.t + a.p * b.p * r) (a.t * b.p + a.p * b.t) r (a.b * b.b)
def lessN (b : Nm) : Nm := ⟨-b.t, -b.p, b.r, b.b⟩
theorem Okn.ladd (h : Okn R a) (k : Okn R b) : addN a b = lAddN a b R := (h.add k).uniq (Rt.mk' (h.rt.bnz k.rt) fun _ => rfl) rfl rfl
theorem Okn.lmul (h : Okn R a) (k : Okn R b) : mulN a b = lMulN a b R := (h.mul k).uniq (Rt.mk' (h.rt.bnz k.rt) fun _ => rfl) rfl rfl
theorem Okn.less (h : Okn R a) (k : Okn R b) : subN a b = lAddN a (lessN b) R := by
  have e : Rt R (lAddN a (lessN b) R) (a.t * b.b + -b.t * a.b) (a.p * b.b + -b.p * a.b) (a.b * b.b) := Rt.mk' (t := a.t * b.b + -b.t * a.b) (p := a.p * b.b + -b.p * a.b) (b := a.b * b.b) (h.rt.bnz k.rt) fun _ => rfl
  exact (h.sub k).uniq e (by grind) (by grind)
theorem Okn.back (h : Okn R a) (k : Okn R b) : addN (subN a b) b = a := by
  have b0 := k.rt.b0
  refine (Rt.add ((h.subk k).hz k) (h.sub k) k.rt).uniq h.rt ?_ ?_ <;> grind
theorem Okn.self (h : Okn R n) : mkNm n.t n.p n.r n.b = n := mkNm_self h.nrm
end
theorem fdiv_abs_le (x : Int) {s : Int} (h : s ∣ x) : (x.fdiv s).natAbs ≤ x.natAbs := by
  have e := fdiv_mul h
  by_cases c : x = 0
  · rw [c, Int.zero_fdiv]; exact Nat.le_refl _
  · have e2 : (x.fdiv s).natAbs * s.natAbs = x.natAbs := by rw [← Int.natAbs_mul, e]
    have : s.natAbs ≠ 0 := fun z => by rw [z] at e2; omega
    have h3 := Nat.mul_le_mul_left (x.fdiv s).natAbs (show 1 ≤ s.natAbs by omega)
    omega
theorem mk_bd {t p r b : Int} {k : Nat} (bt : Bd k t) (bp : Bd k p) (bb : Bd k b) : Bd k (mkNm t p r b).t ∧ Bd k (mkNm t p r b).p ∧ Bd k (mkNm t p r b).b := by
  obtain ⟨h1, h2, h3⟩ := share_dvd (t := t) (p := p) (b := b)
  exact ⟨bt.le (fdiv_abs_le t h1), bp.le (fdiv_abs_le p h2), bb.le (fdiv_abs_le b h3)⟩
def B3 (k : Nat) (n : Nm) : Prop := Bd k n.t ∧ Bd k n.p ∧ Bd k n.b
theorem B3.mono {k m : Nat} {n : Nm} (h : B3 k n) (l : k ≤ m) : B3 m n := ⟨h.1.mono l, h.2.1.mono l, h.2.2.mono l⟩
section
variable {a b : Nm} {k : Nat}
theorem cR_bd {a b : Nm} (h : Bd 10 a.r) (g : Bd 10 b.r) : Bd 10 (cRoot a b) := by unfold cRoot; split <;> assumption
theorem B3.add (h : B3 k a) (g : B3 k b) : B3 (2 * k + 12) (addN a b) := mk_bd
  ((Bd.add (n := k + k) (m := k + k + 1) (h.1.mul g.2.2) (g.1.mul h.2.2) rfl).mono (by omega)) ((Bd.add (n := k + k) (m := k + k + 1) (h.2.1.mul g.2.2) (g.2.1.mul h.2.2) rfl).mono (by omega)) ((h.2.2.mul g.2.2).mono (by omega))
theorem B3.sub (h : B3 k a) (g : B3 k b) : B3 (2 * k + 12) (subN a b) := mk_bd
  ((Bd.sub (n := k + k) (m := k + k + 1) (h.1.mul g.2.2) (g.1.mul h.2.2) rfl).mono (by omega)) ((Bd.sub (n := k + k) (m := k + k + 1) (h.2.1.mul g.2.2) (g.2.1.mul h.2.2) rfl).mono (by omega)) ((h.2.2.mul g.2.2).mono (by omega))
theorem B3.mul (h : B3 k a) (g : B3 k b) (r1 : Bd 10 a.r) (r2 : Bd 10 b.r) : B3 (2 * k + 12) (mulN a b) := mk_bd
  ((Bd.add (n := k + k + 10) (m := k + k + 11) ((h.1.mul g.1).mono (by omega)) ((h.2.1.mul g.2.1).mul (cR_bd r1 r2)) rfl).mono (by omega)) ((Bd.add (n := k + k) (m := k + k + 1) (h.1.mul g.2.1) (h.2.1.mul g.1) rfl).mono (by omega)) ((h.2.2.mul g.2.2).mono (by omega))
theorem B3.over (h : B3 k a) (g : B3 k b) (r1 : Bd 10 a.r) (r2 : Bd 10 b.r) : B3 (3 * k + 12) (overN a b) := mk_bd
  (((Bd.sub (n := k + k + 10) (m := k + k + 11) ((h.1.mul g.1).mono (by omega)) ((h.2.1.mul g.2.1).mul (cR_bd r1 r2)) rfl).mul g.2.2).mono (by omega))
  (((Bd.sub (n := k + k) (m := k + k + 1) (h.2.1.mul g.1) (h.1.mul g.2.1) rfl).mul g.2.2).mono (by omega))
  (((Bd.sub (n := k + k + 10) (m := k + k + 11) ((g.1.mul g.1).mono (by omega)) ((g.2.1.mul g.2.1).mul (cR_bd r1 r2)) rfl).mul h.2.2).mono (by omega))
end
end PF
namespace PF
open PySem PySem.Spec PyProof.Rows L2 SlX
def frzN (F H H' : Hp) : Hp := fun b => match F b with
  | some o => some o
  | none => match H b with
    | some _ => none
    | none => H' b
theorem frzN_new {F H H' : Hp} {b : Addr} (s : Same F H) (n : H b = none) : frzN F H H' b = H' b := by
  unfold frzN
  rw [s.free n, n]
theorem frz_ext {p : Option Addr} {F H H' : Hp} (s : Same F H) (e : Same H H') : ExtX p F H (frzN F H H') H' := by
  have fz : Same F (frzN F H H') := fun b o h => by unfold frzN; rw [h]
  refine ⟨fz, fun b o h => ?_, fun b o _ _ h => e b o h, fun b h => ?_, fun b h => ?_, fun ta p hp => (ta p hp).go ?_ (fun o z => e p.1 o z) fz⟩
  · unfold frzN at h
    cases z : F b with
    | some u =>
      rw [z] at h
      cases h
      exact e b _ (s b _ z)
    | none =>
      rw [z] at h
      cases y : H b with
      | some u => rw [y] at h; cases h
      | none => rw [y] at h; exact h
  · unfold frzN
    cases z : F b with
    | some u => rfl
    | none =>
      cases y : H b with
      | some u => rfl
      | none => exact absurd y h
  · cases z : H b with
    | none => exact absurd z h
    | some o => rw [e b o z]; simp
  · obtain ⟨h1, ps, h2, _⟩ := ta p hp
    unfold frzN
    rw [h1, h2]
theorem Wo.ext' {k : Cn} {F H F' H' : Hp} {c : Nat} (w : Wo k F H c) (x : ExtX none F H F' H') : ExtX k.p F H F' H' ∧ Wo k F' H' c := w.call x
section
variable {Γ : Type} {α β γ : Type} {μ : Md} {E : EV Γ} {Ra : Rp α} {Rb : Rp β} {R : Rp γ} {K : PySem.W.Frag} {CN CF : Addr}
theorem VP.same {k : Cn} {F H H' : Hp} {c : Nat} {Q : VK} {v : V} {a : α} (w : Wo k F H c) (q : VP k F H Ra Q a c) (e : Same H H') (r : Ra.r (frzN F H H') v a) : Q v H' := by
  obtain ⟨x, w'⟩ := w.call (frz_ext (p := none) w.sub e)
  exact q v _ H' x w' r
theorem AtN.frz {F H H' : Hp} {v : V} {n : Nm} {C : Addr} (h : AtN C H H' v n) (s : Same F H) : At4 C (frzN F H H') v n := by
  obtain ⟨a, dx, rfl, h, n1, n2⟩ := h
  refine ⟨a, dx, rfl, ?_⟩
  rcases h with ⟨_, h2⟩ | ⟨h1, h2⟩
  · cases h2
  · exact .inr ⟨by rw [frzN_new s n1]; exact h1, by rw [frzN_new s n2]; exact h2⟩
def rNum (CN : Addr) : Rp Nm := ⟨fun F v n => At4 CN F v n, fun s h => h.same s⟩
theorem NI.same {F H : Hp} {v : V} {n : Nm} (h : NI CN F v n) (s : Same F H) : NI CN H v n := h.imp (fun h => h.same s) id
theorem e_numInt0 {g : Nm → Int} {ta : TE} {ma : Γ → M Nm} (ha : SE md0 E (rNum CN) ta ma) : SE md0 E rInt (tPropSl CN (spInt0 CN g) E0 ta) fun ρ => (ma ρ).bind fun a => .ret (g a) := fun k F H σ ρ c Q w e h =>
  ha k F H σ ρ c _ w e (wp_imp h fun a c1 q v F1 H1 x1 w1 r1 => by
    have r1' : At4 CN H1 v a := At4.same r1 w1.sub
    have r1'' := r1'
    obtain ⟨p, dx, rfl, kk⟩ := r1'
    exact ⟨p, dx, _, rfl, kk, _, a, rfl, r1'', q _ F1 H1 x1 w1 rfl⟩)
end
theorem bd_log {k : Nat} {i : Int} (h : Bd k i) (k0 : 0 < k) : i.natAbs.log2 < k := by
  by_cases c : i.natAbs = 0
  · rw [c]; exact k0
  · exact (Nat.log2_lt c).mpr h
end PF
set_option maxHeartbeats 1000000
namespace PWT
open PySem PySem.W PySem.Calls PyProof.Rows
section
variable {prog : Program} {w : World} {M : Model} {A : Around} {E : Value → Shared → Prop} {s : Shared} {K : Frag} {h : Heap} {a : Int} {t : Tok}
theorem max_digits (X : K.In h) (e : nsIn K cStatics "sys.int_max_str_digits" = some none) : Looks M h Builtin.intMaxStrDigits 4300 := by
  unfold Builtin.intMaxStrDigits
  exact (looks_nsIn X e).andThen .now
theorem over_big (X : K.In h) (e : nsIn K cStatics "sys.int_max_str_digits" = some none) (hl : a.natAbs.log2 < 12900) : Looks M h (Builtin.overDigitLimit? a) none := by
  unfold Builtin.overDigitLimit?
  by_cases hs : a.natAbs.log2 < 1920
  · rw [if_pos hs]
    exact .now
  · rw [if_neg hs]
    refine (max_digits X e).andThen ?_
    dsimp only
    rw [if_neg (show ¬ a.natAbs.log2 / 30 + 1 > 1000 by omega), if_pos (by simp only [Bool.or_eq_true, decide_eq_true_eq]; right; omega)]
    exact .now
theorem repr_big {R : Result → Shared → Prop} (X : K.In s.heap) (e : nsIn K cStatics "sys.int_max_str_digits" = some none) (hl : a.natAbs.log2 < 12900) (h1 : R (.ok (.ret (.str (toString a) s.toks))) { s with toks := s.toks + 1 }) :
    codeAny (model prog w) A (.builtin "int.__repr__" ⟨[.int a t], []⟩) R s := by
  refine codeAny_builtin entry_int_repr ?_
  rw [Around.under_plainId plain_int_repr _]
  unfold Builtin.«int.__repr__»
  show wpAny _ _ (do let r ← Builtin.overDigitLimit? a; _) _ _ s
  refine wpAny_bind ((over_big X e hl).here ?_)
  exact wpAny_bind (wpAny_mkStr (wpAny_pure h1) (int_text_fits10 (Nat.lt_of_lt_of_le (lt_of_log2 hl) pow_lo)))
theorem format_big {Q : Value → Shared → Prop} (X : K.In s.heap) (e : nsIn K cStatics "sys.int_max_str_digits" = some none) (hl : a.natAbs.log2 < 12900) (h1 : Q (.str (toString a) (s.toks + 1)) { s with toks := s.toks + 1 + 1 }) :
    wpAny (model prog w) A (formatField (.int a t) Str.empty) Q E s := by
  show wpAny _ _ (holding [.int a t] (pyFormat (.int a t) Str.empty)) Q E s
  refine wpAny_holding ?_
  unfold pyFormat
  refine wpAny_bind (wpAny_mkStr ?_ (by decide))
  refine wpAny_bind (m := callSpecial? (.int a t) (Str.ofString "__format__") [.str Str.empty s.toks]) (wpAny_callSpecial?_slot (name := Str.ofString "__format__") (typeIs_int _ a t) slot_int_format ?_)
  refine wpAny_call (codeAny_call_builtin slot_int_format.plain entry_int_format (slot_int_format.check _ _ _ _ _ _ _ _ (typeIs_int _ a t) (args_int_format _ _) ?_))
  show wpAny _ _ (do let _kind ← typeNameOf (.str Str.empty s.toks); (do rule "int.format.empty"; again (.builtin "int.__repr__" ⟨[.int a t], []⟩))) _ _ _
  refine wpAny_bind (wpAny_typeNameOf (T := "str") (typeIs_str _ _ _) (by decide) fun _ => wpAny_bind (wpAny_rule (wpAny_pure ⟨plainId_quiet plain_int_repr _, repr_big (by exact X) e hl ?_⟩)))
  show wpAny _ _ (do if ← isInstance (.str (toString a) (s.toks + 1)) (.type "str") then return (.str (toString a) (s.toks + 1)) else _) Q E _
  exact wpAny_bind (wpAny_isInstance (typeIs_str _ _ _) isSubtype_str_str (wpAny_pure h1))
end
theorem wp_long {n : Int} {M : Model} {A : Around} {E : Value → Shared → Prop} {s : Shared} {Q : Value → Shared → Prop} {v : Value} {K : Frag} (X : K.In s.heap) (e : nsIn K cStatics "sys.int_max_str_digits" = some none) {text : List Nat}
    (hn : ¬ (text.takeWhile (· != 0)).length ≤ 640) (hr : (int_private% "readNumeral") 4300 10 (text.takeWhile (· != 0)) = (int_private% "Numeral.value") n)
    (ha : ((text.takeWhile (· != 0)).length == text.length) = true) (h : Q (.int n s.toks) { s with toks := s.toks + 1 }) :
    wpAny M A ((int_private% "intFromText") v text 10) Q E s := by
  obtain ⟨hp, g, d, tk, os⟩ := s
  have L := max_digits (M := M) X e
  repeat (any_goals (first
    | assumption
    | (with_reducible refine wpAny_ite_false (decide_eq_false hn) ?_)
    | (with_reducible refine Looks.at L ?_)
    | (with_reducible refine wpAny_ite_true (decide_eq_true ha) ?_)
    | wp_step))
  all_goals (try rw [hr])
  all_goals (try dsimp only)
  repeat (any_goals (first
    | assumption
    | (with_reducible refine wpAny_ite_true (decide_eq_true ha) ?_)
    | wp_step))
theorem wp_any {n : Int} {M : Model} {A : Around} {E : Value → Shared → Prop} {s : Shared} {Q : Value → Shared → Prop} {v : Value} {K : Frag} (X : K.In s.heap) (e : nsIn K cStatics "sys.int_max_str_digits" = some none) {text : List Nat}
    (hr : (int_private% "readNumeral") (if (text.takeWhile (· != 0)).length ≤ 640 then 0 else 4300) 10 (text.takeWhile (· != 0)) = (int_private% "Numeral.value") n)
    (ha : ((text.takeWhile (· != 0)).length == text.length) = true) (h : Q (.int n s.toks) { s with toks := s.toks + 1 }) :
    wpAny M A ((int_private% "intFromText") v text 10) Q E s := by
  by_cases hn : (text.takeWhile (· != 0)).length ≤ 640
  · rw [if_pos hn] at hr
    exact KIN.wp_text hn hr ha h
  · rw [if_neg hn] at hr
    exact wp_long X e hn hr ha h
structure Hid (p : Prop) : Prop where
  out : p
set_option maxHeartbeats 4000000 in
theorem meets_int {x : Str} {u : Tok} {n : Int} {K : Frag} (hl : x.length ≤ sizeLine) (hn : PySem.intText? x = some n) (e : nsIn K cStatics "sys.int_max_str_digits" = some none) : Meets (Builtin.«int.__new__» ⟨[.type "int", .str x u], []⟩) (fun _ R s => K.In s.heap ∧ R (.ok (.ret (.int n s.toks))) { s with toks := s.toks + 1 }) :=
  .of_wp fun prog w A R s h => by
    obtain ⟨hp, g, d, tk, os⟩ := s
    obtain ⟨X, h⟩ := h
    have f1 := PySem.F.conv_sub_int
    have f2 := PySem.F.madeHere_int
    have f3 := KIN.str_int
    have f4 := KIN.str_idx
    have f5 := KIN.str_trunc
    have f6 : typeOf (.str x u) = pure (.type "str") := rfl
    have hk : Hid ((int_private% "readNumeral") (if (numSeenOf x).length ≤ 640 then 0 else 4300) 10 (numSeenOf x) = (int_private% "Numeral.value") n ∧ ((numSeenOf x).length == (numTextOf x).length) = true) := by
      rcases readAny x hl with ⟨m, h1, h2, h3⟩ | ⟨h1, _⟩
      · rw [hn] at h1
        injection h1 with h1
        subst h1
        exact ⟨h3, h2⟩
      · rw [hn] at h1
        cases h1
    clear hl hn
    repeat (any_goals (first
      | assumption
      | ((with_reducible show wpAny _ _ ((int_private% "intFromText") _ _ _) _ _ _); refine wp_any X e hk.out.1 hk.out.2 ?_)
      | wp_step))
    all_goals first | exact ⟨_, rfl, h⟩ | skip
theorem call_int {prog : Program} {w : World} {A : Around} {E : Value → Shared → Prop} {s : Shared} {Q : Value → Shared → Prop} {t : Tok} {x : Str} {n : Int} {K : Frag} (hl : x.length ≤ sizeLine) (hn : PySem.intText? x = some n) (X : K.In s.heap) (e : nsIn K cStatics "sys.int_max_str_digits" = some none) (h : Q (.int n s.toks) { s with toks := s.toks + 1 }) : wpAny (model prog w) A (call (.type "int") [.str x t]) Q E s :=
  call_int_1 (meets_int hl hn e) ⟨X, typeIs_int _ _ _, h⟩
end PWT
namespace L2
open PySem PySem.Spec PyProof.Rows
section
variable {X : Cx}
theorem call_int_strB (yd : PySem.W.nsIn X.K cStatics "sys.int_max_str_digits" = some none) : CallR X (.type "int") (fun xs H Q => ∃ a n, xs = [.str a] ∧ PySem.intText? a = some n ∧ a.length ≤ sizeLine ∧ Q (.int n) H) := by
  intro pins s σ H xs us Q I rs h
  obtain ⟨a, n, rfl, hn, hl, h⟩ := h
  cases rs with
  | cons r1 rs =>
    cases rs
    obtain ⟨t, rfl⟩ := r1
    exact PWT.call_int hl hn I.kIn yd ⟨.int n, H, I.tok _, ⟨_, rfl⟩, h⟩
def tFmtB (te : TE) : TE := fun σ H Q => te σ H fun x H1 => (∃ y : Str, x = .str y ∧ y.length ≤ sizeLine ∧ Q (.str y) H1) ∨ ∃ i : Int, x = .int i ∧ i.natAbs.log2 < 12900 ∧ Q (.str (toString i)) H1
theorem pe_fmtB {e : Expr} {te : TE} {pos : Pos} (yd : PySem.W.nsIn X.K cStatics "sys.int_max_str_digits" = some none) (he : PE X e te) : PE X (.FormattedValue e (-1) none pos) (tFmtB te) := by
  refine ⟨fun pins s σ H Q I h => ?_⟩
  refine wpAny_FormattedValue_plain (thn (he.run pins s σ H _ I h) fun v s1 hv => ?_)
  obtain ⟨x, H1, I1, r1, q⟩ := hv
  rcases q with ⟨y, rfl, hz, q⟩ | ⟨i, rfl, hz, q⟩
  · obtain ⟨t, rfl⟩ := r1
    exact wpAny_formatField_str ⟨.str y, H1, I1, ⟨t, rfl⟩, q⟩ ⟨.str y, H1, I1.tok _, ⟨_, rfl⟩, q⟩ hz
  · obtain ⟨t, rfl⟩ := r1
    exact PWT.format_big I1.kIn yd hz ⟨.str (toString i), H1, I1.tok _, ⟨_, rfl⟩, q⟩
end
end L2
namespace PF
open PySem PySem.Spec PyProof.Rows L2 SlX
section
variable {Γ : Type} {μ : Md} {E : EV Γ}
theorem c_intSB : CaS μ (fun xs H Q => ∃ a n, xs = [.str a] ∧ PySem.intText? a = some n ∧ a.length ≤ sizeLine ∧ Q (.int n) H) (a1 rStr) rInt fun a => .need (a.1.length ≤ sizeLine) (.the (PySem.intText? a.1)) := fun k F H c vs a Q w r ⟨q1, n, en, q⟩ => by
  obtain ⟨v, e, r⟩ := one r
  exact ⟨a.1, n, by rw [e, r], en, q1, VP.now w q rfl⟩
theorem e_count {to te : TE} {mo me : Γ → M Str} (ho : SE μ E rStr to mo) (he : SE μ E rStr te me) :
    SE μ E rInt (tM1 (fun x xs H Q => ∃ a b, x = .str a ∧ xs = [.str b] ∧ Q (.int (Txt.count a b)) H) to te) fun ρ => (mo ρ).bind fun a => (me ρ).bind fun b => .ret (Txt.count a b) := fun k F H σ ρ c Q w e h =>
  ho k F H σ ρ c _ w e (wp_imp h fun a c1 q v F1 H1 x1 w1 r1 => ⟨⟨a, r1⟩, he k F1 H1 σ ρ c1 _ w1 (e.step x1) (wp_imp q fun b c2 q u F2 H2 x2 w2 r2 => ⟨a, b, r1, by rw [r2], q _ F2 H2 (x1.trans x2) w2 rfl⟩)⟩)
end
end PF
set_option maxHeartbeats 4000000
namespace PF
open PySem PySem.Spec PyProof.Rows L2 SlX
def underT (b : Int) : Str := if b = 1 then "" else Str.empty ++ "/" ++ toString b
def wholeT (t p r : Int) : Str := Str.empty ++ toString t ++ (if 0 < p then "+" else "" : Str) ++ toString p ++ "r" ++ toString r
def toldT (t p r b : Int) : Str :=
  if p = 0 then Str.empty ++ toString t ++ underT b
  else if t = 0 then Str.empty ++ toString p ++ "r" ++ toString r ++ underT b
  else if b = 1 then wholeT t p r
  else Str.empty ++ "(" ++ wholeT t p r ++ ")" ++ underT b
def spTold : Sp := fun vs H Q _ => ∃ t p r b : Int, vs = [.int t, .int p, .int r, .int b] ∧ Bd 9000 t ∧ Bd 9000 p ∧ Bd 9000 r ∧ Bd 9000 b ∧ Q (.str (toldT t p r b)) H
section
variable {P : Program} {w : World} {K : PySem.W.Frag} {mg : Str → Option Value} {base : Heap} {f CN CF : Addr} {fd : FuncData}
theorem sc_told_number : FnScope ["top", "part", "root", "bottom", "under", "plus", "whole"] ["top", "part", "root", "bottom"] (defScope (topS 15)) := ⟨rfl, rfl, rfl, by decide +kernel, rfl, by decide +kernel, by decide +kernel⟩
theorem ok_told (F : Fun K "told_number" "told_number" (topS 15) f fd) (fr : Free mg) (yd : PySem.W.nsIn K cStatics "sys.int_max_str_digits" = some none) : FnOk P w K mg base CX0 2 f fd ["top", "part", "root", "bottom"] spTold := by
  refine F.ok sc_told_number (fun vs H Q E ⟨_, _, _, _, e, _⟩ => by rw [e]; rfl) (fun cdv A outer s H vs Q E hr h => ⟨_, (pss_cons (ps_set (i := 4) sc_told_number.nd rfl (by first | exact Or.inl rfl | exact Or.inr rfl) (pe_ifExp (pt_cmpR op_eq (pv 3) pe_int (nomark _)) pe_str (pe_joined (PJ.cons pe_str (PJ.cons (pe_fmtB yd (pv 3)) PJ.nil)))))
  (pss_cons (ps_if (pt_cmpR op_eq (pv 1) pe_int (nomark _)) (pss_one (ps_ret (pe_joined (PJ.cons (pe_fmtB yd (pv 0)) (PJ.cons (pe_fmtB yd (pv 4)) PJ.nil))))) pss_nil)
  (pss_cons (ps_if (pt_cmpR op_eq (pv 0) pe_int (nomark _)) (pss_one (ps_ret (pe_joined (PJ.cons (pe_fmtB yd (pv 1)) (PJ.cons pe_str (PJ.cons (pe_fmtB yd (pv 2)) (PJ.cons (pe_fmtB yd (pv 4)) PJ.nil))))))) pss_nil)
  (pss_cons (ps_set (i := 5) sc_told_number.nd rfl (by first | exact Or.inl rfl | exact Or.inr rfl) (pe_ifExp (pt_cmpR op_gt (pv 1) pe_int (nomark _)) pe_str pe_str))
  (pss_cons (ps_set (i := 6) sc_told_number.nd rfl (by first | exact Or.inl rfl | exact Or.inr rfl) (pe_joined (PJ.cons (pe_fmtB yd (pv 0)) (PJ.cons (pe_fmtB yd (pv 5)) (PJ.cons (pe_fmtB yd (pv 1)) (PJ.cons pe_str (PJ.cons (pe_fmtB yd (pv 2)) PJ.nil)))))))
  (pss_one (ps_ret (pe_ifExp (pt_cmpR op_eq (pv 3) pe_int (nomark _)) (pv 6) (pe_joined (PJ.cons pe_str (PJ.cons (pe_fmtB yd (pv 6)) (PJ.cons pe_str (PJ.cons (pe_fmtB yd (pv 4)) PJ.nil))))))))))))), ?_⟩)
  obtain ⟨t, p, r, b, rfl, bt, bp, br, bb, q⟩ := h
  have it : ∀ i : Int, Bd 9000 i → (Str.ofString (toString i)).length ≤ 9001 := fun i h => by
    have e := int_text_length_le (k := 9000) (by decide) (bd_log h (by decide))
    rw [PySem.ofString_length]; exact e
  have lg : ∀ i : Int, Bd 9000 i → i.natAbs.log2 < 12900 := fun i h => Nat.lt_trans (bd_log h (by decide)) (by decide)
  have L := sizeLine_eq
  have l1 := it t bt
  have l2 := it p bp
  have l3 := it r br
  have l4 := it b bb
  have e0 : Str.empty.length = 0 := rfl
  have e1 : (Str.ofString "/").length = 1 := rfl
  have e2 : (Str.ofString "r").length = 1 := rfl
  have e3 : (Str.ofString "(").length = 1 := rfl
  have e4 : (Str.ofString ")").length = 1 := rfl
  have e5 : (Str.ofString "+").length = 1 := rfl
  have e6 : (Str.ofString "").length = 0 := rfl
  have two : ∀ u pl : Str, u = underT b → u.length ≤ 20000 → pl = (if 0 < p then "+" else "" : Str) → pl.length ≤ 1 → p ≠ 0 → t ≠ 0 → tSeq (tAsg (fun σ H Q => tJs [tFmtB (tVar 0), tFmtB (tVar 5), tFmtB (tVar 1), tC (V.str (Str.ofString "r")), tFmtB (tVar 2)] Str.empty σ H fun out H1 => Q (V.str out) H1) (gName 6))
      (tRet (tIf (tTest (tOp rEq (tVar 3) (tC (V.int 1)))) (tVar 6) fun σ H Q => tJs [tC (V.str (Str.ofString "(")), tFmtB (tVar 6), tC (V.str (Str.ofString ")")), tFmtB (tVar 4)] Str.empty σ H fun out H1 => Q (V.str out) H1))
      { nx := fun x H' => Q V.non H', rt := Q } [some (.int t), some (.int p), some (.int r), some (.int b), some (.str u), some (.str pl), none] H := fun u pl hu lu hp lp p0 t0 => by
    have lw : (wholeT t p r).length ≤ 60000 := by
      unfold wholeT
      rw [← hp]
      simp only [Str.length_append, e0, e2]
      omega
    unfold toldT at q
    rw [if_neg p0, if_neg t0] at q
    refine ⟨_, rfl, .inr ⟨_, rfl, lg _ bt, _, rfl, (by simp only [Str.length_append, e0, e1, e2, e3, e4, e5, e6]; omega), _, rfl, .inl ⟨_, rfl, (by omega), _, rfl, (by simp only [Str.length_append, e0, e1, e2, e3, e4, e5, e6]; omega), _, rfl, .inr ⟨_, rfl, lg _ bp, _, rfl, (by simp only [Str.length_append, e0, e1, e2, e3, e4, e5, e6]; omega), _, rfl, (by simp only [Str.length_append, e0, e1, e2, e3, e4, e5, e6]; omega), _, rfl, .inr ⟨_, rfl, lg _ br, _, rfl, (by simp only [Str.length_append, e0, e1, e2, e3, e4, e5, e6]; omega), ?_⟩⟩⟩⟩⟩
    have ew : Str.empty ++ Str.ofString (toString t) ++ pl ++ Str.ofString (toString p) ++ Str.ofString "r" ++ Str.ofString (toString r) = wholeT t p r := by unfold wholeT; rw [← hp]
    rw [ew]
    refine ⟨_, rfl, rfl, _, rfl, ite_dec (fun c => ?_) fun c => ?_⟩
    · rw [if_pos (V.int.inj c)] at q
      exact ⟨_, rfl, q⟩
    · rw [if_neg fun z => c (congrArg V.int z), ← hu] at q
      exact ⟨_, rfl, (by simp only [Str.length_append, e0, e1, e2, e3, e4, e5, e6]; omega), _, rfl, .inl ⟨_, rfl, (by omega), _, rfl, (by simp only [Str.length_append, e0, e1, e2, e3, e4, e5, e6]; omega), _, rfl, (by simp only [Str.length_append, e0, e1, e2, e3, e4, e5, e6]; omega), _, rfl, .inl ⟨_, rfl, (by omega), _, rfl, (by simp only [Str.length_append, e0, e1, e2, e3, e4, e5, e6]; omega), q⟩⟩⟩
  have one : ∀ u : Str, u = underT b → u.length ≤ 20000 → tSeq (tIfS (tTest (tOp rEq (tVar 1) (tC (V.int 0)))) (tRet fun σ H Q => tJs [tFmtB (tVar 0), tFmtB (tVar 4)] Str.empty σ H fun out H1 => Q (V.str out) H1) tNext)
      (tSeq (tIfS (tTest (tOp rEq (tVar 0) (tC (V.int 0)))) (tRet fun σ H Q => tJs [tFmtB (tVar 1), tC (V.str (Str.ofString "r")), tFmtB (tVar 2), tFmtB (tVar 4)] Str.empty σ H fun out H1 => Q (V.str out) H1) tNext)
      (tSeq (tAsg (tIf (tTest (tOp (rI0 fun i j => V.bl (decide (j < i))) (tVar 1) (tC (V.int 0)))) (tC (V.str (Str.ofString "+"))) (tC (V.str (Str.ofString "")))) (gName 5))
      (tSeq (tAsg (fun σ H Q => tJs [tFmtB (tVar 0), tFmtB (tVar 5), tFmtB (tVar 1), tC (V.str (Str.ofString "r")), tFmtB (tVar 2)] Str.empty σ H fun out H1 => Q (V.str out) H1) (gName 6))
      (tRet (tIf (tTest (tOp rEq (tVar 3) (tC (V.int 1)))) (tVar 6) fun σ H Q => tJs [tC (V.str (Str.ofString "(")), tFmtB (tVar 6), tC (V.str (Str.ofString ")")), tFmtB (tVar 4)] Str.empty σ H fun out H1 => Q (V.str out) H1)))))
      { nx := fun x H' => Q V.non H', rt := Q } [some (.int t), some (.int p), some (.int r), some (.int b), some (.str u), none, none] H := fun u hu lu => by
    refine ⟨_, rfl, rfl, _, rfl, ite_dec (fun c => ?_) fun c => ?_⟩
    · unfold toldT at q
      rw [if_pos (V.int.inj c), ← hu] at q
      exact ⟨_, rfl, .inr ⟨_, rfl, lg _ bt, _, rfl, (by simp only [Str.length_append, e0, e1, e2, e3, e4, e5, e6]; omega), _, rfl, .inl ⟨_, rfl, (by omega), _, rfl, (by simp only [Str.length_append, e0, e1, e2, e3, e4, e5, e6]; omega), q⟩⟩⟩
    refine ⟨_, rfl, rfl, _, rfl, ite_dec (fun c2 => ?_) fun c2 => ?_⟩
    · unfold toldT at q
      rw [if_neg fun z => c (congrArg V.int z), if_pos (V.int.inj c2), ← hu] at q
      exact ⟨_, rfl, .inr ⟨_, rfl, lg _ bp, _, rfl, (by simp only [Str.length_append, e0, e1, e2, e3, e4, e5, e6]; omega), _, rfl, (by simp only [Str.length_append, e0, e1, e2, e3, e4, e5, e6]; omega), _, rfl, .inr ⟨_, rfl, lg _ br, _, rfl, (by simp only [Str.length_append, e0, e1, e2, e3, e4, e5, e6]; omega), _, rfl, .inl ⟨_, rfl, (by omega), _, rfl, (by simp only [Str.length_append, e0, e1, e2, e3, e4, e5, e6]; omega), q⟩⟩⟩⟩
    refine ⟨_, rfl, _, _, rfl, rfl, _, rfl, ite_dec (fun c3 => ?_) fun c3 => ?_⟩
    · exact two u _ hu lu (if_pos c3).symm (by rw [e5]; exact Nat.le_refl 1) (fun z => c (congrArg V.int z)) fun z => c2 (congrArg V.int z)
    · exact two u _ hu lu (if_neg c3).symm (by rw [e6]; exact Nat.zero_le 1) (fun z => c (congrArg V.int z)) fun z => c2 (congrArg V.int z)
  refine ⟨_, rfl, rfl, _, rfl, ite_dec (fun c => ?_) fun c => ?_⟩
  · exact one _ (if_pos (V.int.inj c)).symm (by rw [e6]; exact Nat.zero_le _)
  · exact ⟨_, rfl, (by simp only [Str.length_append, e0, e1, e2, e3, e4, e5, e6]; omega), _, rfl, .inr ⟨_, rfl, lg _ bb, _, rfl, (by simp only [Str.length_append, e0, e1, e2, e3, e4, e5, e6]; omega), one _ (if_neg fun z => c (congrArg V.int z)).symm (by simp only [Str.length_append, e0, e1, e2, e3, e4, e5, e6]; omega)⟩⟩
end
end PF
set_option maxHeartbeats 1000000
namespace PF
open PySem PySem.Spec PyProof.Rows L2 SlX
section
variable {prog : Program} {w : World} {A : Around} {E : Value → Shared → Prop} {s : Shared} {K : PySem.W.Frag} {x C D f : Addr} {ox od : Obj} {odd : Option Obj}
theorem str_own {Q : Value → Shared → Prop} (hu : A.in1.in1.units + 1 < cLine) (X : K.In s.heap) (I : PySem.W.InstAt s.heap x ox C odd) (hs : PySem.W.findIn K (.ref C) "__str__" = some (some (.ref f))) (hf : PySem.W.isFn K (.ref f) = true)
    (h : wpAny (model prog w) A.in1.in1 (call (.ref f) [.ref x]) (fun r s₁ => ∃ n u, r = Value.str n u ∧ Q r s₁) E s) : wpAny (model prog w) A (call (.type "str") [.ref x]) Q E s := by
  refine callType_codes (T := "str") (Bi := Builtin.«object.__init__») (Q₁ := fun r s₁ => ∃ n u, r = Value.str n u ∧ Q r s₁) PySem.F.called_str (PySem.F.typeCall_str_1 _) PySem.F.entry_object_init ?_ ?_
  · refine codeAny_of_tree ?_
    show wpAny _ A.in1.in1 (do checkBuiltinCall "str.__new__" ⟨[.type "str", .ref x], []⟩; again (.builtin "str.__new__" ⟨[.type "str", .ref x], []⟩)) _ _ s
    refine wpAny_bind (wpAny_of_eq (PySem.F.newCall_str_1 _) (wpAny_pure ⟨plainId_quiet (by decide +kernel) _, codeAny_builtin PySem.F.entry_str_new ?_⟩))
    rw [Around.under_plainId (by decide +kernel) _]
    rw [str_new_tree]
    refine wpAny_bind (wpAny_pure ?_)
    refine wpAny_bind (wpAny_of_eq isSubtype_str_str ?_)
    have so : wpAny (model prog w) A.in1.in1 (Builtin.Str.strOf (.ref x)) (fun r s₁ => ∃ n u, r = Value.str n u ∧ Q r s₁) E s := by
      unfold Builtin.Str.strOf
      refine wpAny_bind (wpAny_cRoomFor (by omega) ?_)
      refine wpAny_bind (m := callSpecial? (.ref x) (Str.ofString "__str__")) (PySem.W.special_fn X I hs (beq_iff_eq.mp hf) (wpAny_mono h (fun r s' hr => ?_) fun _ _ y => y))
      obtain ⟨n, u, rfl, hq⟩ := hr
      exact wpAny_pure ⟨n, u, rfl, hq⟩
    refine wpAny_bind (wpAny_mono so (fun r s₁ hr => ?_) fun _ _ y => y)
    obtain ⟨n, u, rfl, hq⟩ := hr
    exact wpAny_pure ⟨n, u, rfl, hq⟩
  · rintro obj s₁ ⟨n, u, rfl, hq⟩
    exact ⟨typeIs_str _ _ _, PySem.F.args_object_init_2 _ _, object_init_meets PySem.F.called_str.init.lookup PySem.F.called_str.made (by decide) prog w A.in1 _ s₁ ⟨typeIs_str _ _ _, rfl, hq⟩⟩
end
def rStrOwn (C : Addr) (sp : Sp) : List V → Hp → VK → Prop := fun xs H Q => ∃ a dx vs, xs = [V.ref a] ∧ Slt H a C dx vs ∧ sp [.ref a] H (fun z H' => ∃ i, z = .str i ∧ Q z H') E0
structure GS (P : Program) (w : World) (K : PySem.W.Frag) (mg : Str → Option Value) (base : Heap) (C : Addr) (k : Nat) (sp : Sp) : Prop where
  ex : ∃ g, PySem.W.findIn K (.ref C) "__str__" = some (some (.ref g)) ∧ PySem.W.isFn K (.ref g) = true ∧ FnR P w K mg base CX0 k g sp
theorem call_strN {X : Cx} {C : Addr} {n : Nat} {sp : Sp} (G : GS X.prog X.w X.K X.mg X.base C n sp) (hr : Room (n + 2) X.A) : CallR X (.type "str") (rStrOwn C sp) := by
  obtain ⟨g, hs, hf, F⟩ := G.ex
  intro pins s σ H xs us Q I r h
  obtain ⟨a, dx, vs, rfl, hsl, q⟩ := h
  obtain ⟨u, rfl, ru⟩ := r.one
  cases (show u = Value.ref a from ru)
  obtain ⟨sl, od, _, J, _⟩ := slt_inst I hsl
  have hr2 : Room n X.A.in1.in1 := (show Room (n + 1) X.A.in1 from Room.in1 hr).in1
  refine str_own (hu_of hr2) I.kIn J hs hf (wpAny_mono (wpAny_call (run_at (us := [.ref a]) (ws := [.ref a]) F hr2 I.env0.in1.in1 pass0 I (.cons rfl .nil) q)) (fun w s' z => ?_) fun _ _ x => x)
  obtain ⟨z', H', I', rz, i, ei, qz⟩ := z
  subst ei
  obtain ⟨t, e⟩ := (show ∃ t, w = Value.str i t from rz)
  cases e
  exact ⟨i, t, rfl, .str i, H', I', ⟨t, rfl⟩, qz⟩
def spStr (CN : Addr) : Sp := fun vs H Q _ => ∃ x a, vs = [x] ∧ At4 CN H x a ∧ Gd 9000 a ∧ Q (.str (toldT a.t a.p a.r a.b)) H
section
variable {P : Program} {w : World} {K : PySem.W.Frag} {mg : Str → Option Value} {base : Heap} {f CN CF : Addr} {fd : FuncData}
theorem sc_Number___str__ : FnScope ["self"] ["self"] (defScope (inClass (topS 18) 18)) := ⟨rfl, rfl, rfl, by decide +kernel, rfl, by decide +kernel, by decide +kernel⟩
theorem ok_str (F : Fun K "__str__" "Number.__str__" (inClass (topS 18) 18) f fd) (fr : Free mg) (T : NTxt K mg CN CF) (G_told_number : GD P w K mg base "told_number" 2 spTold) : FnOk P w K mg base CX0 3 f fd ["self"] (spStr CN) := by
  refine F.ok sc_Number___str__ (fun vs H Q E ⟨_, _, e, _⟩ => by rw [e]; rfl) (fun cdv A outer s H vs Q E hr h => ⟨_, (pss_one (ps_ret (pe_callTy SkE.call_str_str (by rfl) fr.b_str (by decide +kernel) (pa_cons (pe_c1 G_told_number (hr.mono (by decide)) (pa_cons (pe_slC T.cN T.sN_top (pv 0)) (pa_cons (pe_slC T.cN T.sN_part (pv 0)) (pa_cons (pe_slC T.cN T.sN_root (pv 0)) (pa_cons (pe_slC T.cN T.sN_bottom (pv 0)) pa_nil))))) pa_nil)))), ?_⟩)
  obtain ⟨x, a, rfl, ⟨a_self, d_self, rfl, h_self⟩, g, q⟩ := h
  exact ⟨_, rfl, a_self, d_self, _, _, rfl, h_self, rfl, _, rfl, a_self, d_self, _, _, rfl, h_self, rfl, _, rfl, a_self, d_self, _, _, rfl, h_self, rfl, _, rfl, a_self, d_self, _, _, rfl, h_self, rfl, _, _, _, _, rfl, g.t, g.p, g.r.mono (by decide), g.b, _, rfl, q⟩
end
section
variable {Γ : Type} {E : EV Γ} {K : PySem.W.Frag} {mg : Str → Option Value} {CN CF : Addr}
theorem e_numStr {ta : TE} {ma : Γ → M Nm} (ha : SE md0 E (rNum CN) ta ma) : SE md0 E rStr (tCB (rStrOwn CN (spStr CN)) (tCons ta tNil)) fun ρ => (ma ρ).bind fun a => .need (Gd 9000 a) (.ret (toldT a.t a.p a.r a.b)) := fun k F H σ ρ c Q w e h =>
  ha k F H σ ρ c _ w e (wp_imp h fun a c1 ⟨q1, q⟩ v F1 H1 x1 w1 r1 => by
    have r1' : At4 CN H1 v a := At4.same r1 w1.sub
    have r2 := r1'
    obtain ⟨p, dx, rfl, kk⟩ := r1'
    exact ⟨p, dx, _, rfl, kk, _, a, rfl, r2, q1, _, rfl, q _ F1 H1 x1 w1 rfl⟩)
theorem e_mkNum1 {ta : TE} {ma : Γ → M Int} (ha : SE md0 E rInt ta ma) : SE md0 E (rNum CN) (tMake CN (spNumI CN CF) [.int 0, .int 0, .int 1] E0 (tCons ta tNil)) fun ρ => (ma ρ).bind fun i => .ret (mkNm i 0 0 1) := fun k F H σ ρ c Q w e h =>
  ha k F H σ ρ c _ w e (wp_imp h fun i c1 q v F1 H1 x1 w1 r1 => by
    subst r1
    exact num_made (.inr ⟨i, 0, 0, 1, rfl, by decide, .inl ⟨rfl, rfl⟩, bd_sm (by decide) (by decide), rfl⟩) fun v H' s h => VP.same w1 (VP.ext x1 q) s (h.frz w1.sub))
theorem e_mkNum4 {ta tb tr tq : TE} {ma mb mr mq : Γ → M Int} {m : Nat} (ha : SE md0 E rInt ta ma) (hb : SE md0 E rInt tb mb) (hr : SE md0 E rInt tr mr) (hq : SE md0 E rInt tq mq) (hm : 2 = m := by rfl) :
    SE md0 E (rNum CN) (tMakeN CN 2 m (spNumI CN CF) (fun vs zs => vs ++ zs) E0 (tCons ta (tCons tb tNil)) (tCons tr (tCons tq tNil))) fun ρ => (ma ρ).bind fun a => (mb ρ).bind fun b => (mr ρ).bind fun r => (mq ρ).bind fun q => .need (q ≠ 0 ∧ okRoot r b ∧ Bd 9000 q) (.ret (mkNm a b r q)) := fun k F H σ ρ c Q w e h =>
  ha k F H σ ρ c _ w e (wp_imp h fun a c1 q v1 F1 H1 x1 w1 r1 => hb k F1 H1 σ ρ c1 _ w1 (e.step x1) (wp_imp q fun b c2 q v2 F2 H2 x2 w2 r2 => hr k F2 H2 σ ρ c2 _ w2 (e.step (x1.trans x2)) (wp_imp q fun r c3 q v3 F3 H3 x3 w3 r3 => hq k F3 H3 σ ρ c3 _ w3 (e.step ((x1.trans x2).trans x3)) (wp_imp q fun d c4 ⟨⟨q1, q2, q3⟩, q⟩ v4 F4 H4 x4 w4 r4 => by
    subst r1 r2 r3 r4
    exact ⟨rfl, hm, num_made (.inr ⟨a, b, r, d, rfl, q1, q2, q3, rfl⟩) fun v H' s h => VP.same w4 (VP.ext (((x1.trans x2).trans x3).trans x4) q) s (h.frz w4.sub)⟩))))
end
section
variable {κ α β : Type} [DecidableEq κ]
def dput (l : List (κ × α)) (k : κ) (a : α) : List (κ × α) := if (l.any fun p => decide (p.1 = k)) = true then l.map (fun p => if p.1 = k then (p.1, a) else p) else l ++ [(k, a)]
def dget (l : List (κ × α)) (k : κ) : Option α := (l.find? fun p => decide (p.1 = k)).map (·.2)
end
structure KyR {κ : Type} (R : Rp κ) (kf : κ → Key) : Prop where
  v : ∀ {F : Hp} {v : V} {k : κ}, R.r F v k → v = kV (kf k)
  inj : ∀ {a b : κ}, kf a = kf b → a = b
inductive AllD {κ α : Type} (kf : κ → Key) (f : V → α → Prop) : List (Key × V) → List (κ × α) → Prop where
  | nil : AllD kf f [] []
  | cons {v : V} {k : κ} {a : α} {kvs : List (Key × V)} {l : List (κ × α)} (h : f v a) (t : AllD kf f kvs l) : AllD kf f ((kf k, v) :: kvs) ((k, a) :: l)
section
variable {κ α : Type} {kf : κ → Key} {f g : V → α → Prop} {kvs : List (Key × V)} {l : List (κ × α)}
theorem AllD.imp (h : AllD kf f kvs l) (k : ∀ v n, f v n → g v n) : AllD kf g kvs l := by
  induction h with
  | nil => exact .nil
  | cons h _ ih => exact .cons (k _ _ h) ih
theorem AllD.len (h : AllD kf f kvs l) : kvs.length = l.length := by
  induction h with
  | nil => rfl
  | cons h _ ih => rw [List.length_cons, List.length_cons, ih]
theorem AllD.snoc (h : AllD kf f kvs l) {v : V} {k : κ} {a : α} (r : f v a) : AllD kf f (kvs ++ [(kf k, v)]) (l ++ [(k, a)]) := by
  induction h with
  | nil => exact .cons r .nil
  | cons h _ ih => exact .cons h ih
variable [DecidableEq κ]
theorem AllD.any (inj : ∀ {a b : κ}, kf a = kf b → a = b) (h : AllD kf f kvs l) (k : κ) : (kvs.any fun p => decide (p.1 = kf k)) = (l.any fun p => decide (p.1 = k)) := by
  induction h with
  | nil => rfl
  | @cons v k2 a _ _ h _ ih =>
    rw [List.any_cons, List.any_cons, ih]
    by_cases c : k2 = k
    · subst c; simp
    · rw [decide_eq_false fun z => c (inj z), decide_eq_false c]
theorem AllD.repl (inj : ∀ {a b : κ}, kf a = kf b → a = b) (h : AllD kf f kvs l) (k : κ) {v : V} {a : α} (r : f v a) : AllD kf f (kvs.map fun p => if p.1 = kf k then (p.1, v) else p) (l.map fun p => if p.1 = k then (p.1, a) else p) := by
  induction h with
  | nil => exact .nil
  | @cons u k2 b _ _ h _ ih =>
    rw [List.map_cons, List.map_cons]
    by_cases c : k2 = k
    · subst c
      rw [if_pos rfl, if_pos rfl]
      exact .cons r ih
    · rw [if_neg (fun z => c (inj z)), if_neg c]
      exact .cons h ih
theorem AllD.put (inj : ∀ {a b : κ}, kf a = kf b → a = b) (h : AllD kf f kvs l) (k : κ) {v : V} {a : α} (r : f v a) : AllD kf f (putK kvs (kf k) v) (dput l k a) := by
  unfold putK dput
  rw [h.any inj k]
  by_cases c : (l.any fun p => decide (p.1 = k)) = true
  · rw [if_pos c, if_pos c]
    exact h.repl inj k r
  · rw [if_neg c, if_neg c]
    exact h.snoc r
theorem AllD.get (inj : ∀ {a b : κ}, kf a = kf b → a = b) (h : AllD kf f kvs l) (k : κ) : (∃ v a, valV kvs (kf k) = some v ∧ dget l k = some a ∧ f v a) ∨ (valV kvs (kf k) = none ∧ dget l k = none) := by
  induction h with
  | nil => exact .inr ⟨rfl, rfl⟩
  | @cons u k2 b kvs' l' h _ ih =>
    by_cases c : k2 = k
    · subst c
      exact .inl ⟨u, b, valV_pos rfl, by simp [dget], h⟩
    · have e1 : valV ((kf k2, u) :: kvs') (kf k) = valV kvs' (kf k) := valV_neg fun z => c (inj z)
      have e2 : dget ((k2, b) :: l') k = dget l' k := by simp [dget, List.find?_cons, c]
      rw [e1, e2]
      exact ih
end
section
variable {Γ Γ' Γ'' Δ α β γ δ κ : Type} {μ : Md} {E : EV Γ} {E' : EV Γ'} {El : EV Δ} {Ra : Rp α} {Rb : Rp β} {R : Rp γ} {Rk : Rp κ} {kf : κ → Key} {K : PySem.W.Frag} [DecidableEq κ]
def signs (z : Str) : List Str := z.cps.toList.map fun c => (⟨#[c]⟩ : Str)
theorem i_str {te : TE} {m : Γ → M Str} (h : SE μ E rStr te m) : SI μ E rStr (iStr te) fun ρ => (m ρ).bind fun z => .ret (signs z) := fun k F H σ ρ c W w e q =>
  h k F H σ ρ c _ w e (wp_imp q fun z c1 q v F1 H1 x1 w1 r => ⟨z, r, q _ F1 H1 x1 w1 fun i F' H' s1 s2 => by
    refine ⟨fun a ha => ?_, fun hi => ?_⟩
    · unfold signs at ha
      rw [List.getElem?_map] at ha
      cases hc : z.cps.toList[i]? with
      | none => rw [hc] at ha; cases ha
      | some c =>
        rw [hc] at ha
        cases ha
        have hc' : z.cps[i]? = some c := by simpa using hc
        exact ⟨(Array.getElem?_eq_some_iff.mp hc').1, fun x H'' ⟨e1, c2, e2, e3⟩ => by
          rw [hc'] at e2
          cases e2
          subst e1
          exact ⟨F', ExtX.refl s2, e3⟩⟩
    · show z.cps.size ≤ i
      unfold signs at hi
      simpa using hi⟩)
end
end PF
set_option maxHeartbeats 3200000
namespace PF
open PySem PySem.Spec PyProof.Rows L2 SlX
def ddS (xs : List Str) : List Str := xs.foldl (fun l x => if x ∈ l then l else l ++ [x]) []
def SetS (P : Program) (w : World) (h : Heap) (a : Addr) (xs : List Str) : Prop := h.SetOf (PySem.strKind P w) a (fun k => decide (k ∈ xs)) (ddS xs).length
theorem SetS.at {P : Program} {w : World} {h h' : Heap} {a : Addr} {xs : List Str} (z : SetS P w h a xs) (k : ∀ o, h.get? a = some o → h'.get? a = some o) : SetS P w h' a xs := by
  obtain ⟨o, es, ep, t, e, r⟩ := z
  exact ⟨o, es, ep, t, k o e, r⟩
end PF
set_option maxHeartbeats 1000000
namespace PF
open PySem PySem.Spec PyProof.Rows L2 SlX
section
variable {Γ α β γ : Type} {μ : Md} {E : EV Γ} {K : PySem.W.Frag} {Ra : Rp α}
theorem n_split {to te : TE} {mo me : Γ → M Str} (ho : SE μ E rStr to mo) (he : SE μ E rStr te me) :
    SN μ E rStr (tM1 (fun x xs H Q => ∃ a b, x = .str a ∧ xs = [.str b] ∧ (b.length == 0) = false ∧ a.length + 2 ≤ sizeLine ∧ rNewStrs (Txt.split a b) H Q) to te) fun ρ => (mo ρ).bind fun a => (me ρ).bind fun b => .need ((b.length == 0) = false ∧ a.length + 2 ≤ sizeLine) (.ret (Txt.split a b)) := fun k F H σ ρ c Q w e h =>
  ho k F H σ ρ c _ w e (wp_imp h fun a c1 q v F1 H1 x1 w1 r1 => ⟨⟨a, r1⟩, he k F1 H1 σ ρ c1 _ w1 (e.step x1) (wp_imp q fun b c2 ⟨⟨q1, q2⟩, q⟩ u F2 H2 x2 w2 r2 => ⟨a, b, r1, by rw [r2], q1, q2, fun p n => VN.newL w2 (VN.ext (x1.trans x2) q) n (All2.of_map (β := Unit) V.str (fun _ => rfl) _)⟩)⟩)
def inStr (a b : Str) : Bool := !(Builtin.Str.occurrences b a 0 b.length 1).isEmpty
theorem o_inStr : OpS μ (fun x y H Q => ∃ i j, x = .str i ∧ y = .str j ∧ Q (.bl (!(Builtin.Str.occurrences j i 0 j.length 1).isEmpty)) H) rStr rStr rBl fun a b => .ret (inStr a b) := fun k F H c x y a b Q w hx hy q => ⟨a, b, hx, hy, VP.now w q rfl⟩
structure TyR (K : PySem.W.Frag) (R : Rp α) (t : Value) : Prop where
  ty : ∀ {F H : Hp} {v : V} {a : α}, Same F H → R.r F v a → TyY K H v t
theorem tr_str : TyR K rStr (.type "str") := ⟨fun _ h => by subst h; exact .x (.base (.str _))⟩
theorem c_isi {t u : Value} {c : V} {b : Bool} (ht : TyR K Ra t) (hc : ClsV c u) (hk : PySem.W.kitOne K t u = some b) {Rc : Rp Unit} (hr : ∀ {F : Hp} {v : V}, Rc.r F v () → v = c) : CaS μ (rIsiU K) (a2 Ra Rc) rBl fun _ => .ret b := fun k F H n vs a Q w r q => by
  obtain ⟨v, x, e, r1, r2⟩ := two r
  exact ⟨v, c, t, u, b, by rw [e, hr r2], hc, ht.ty w.sub r1, hk, VP.now w q rfl⟩
end
structure GQ (P : Program) (w : World) (K : PySem.W.Frag) (mg : Str → Option Value) (base : Heap) (m : String) (C : Addr) (k : Nat) (sp : Sp) : Prop where
  ex : ∃ g, PySem.W.findIn K (.ref C) m = some (some (.ref g)) ∧ PySem.W.isFn K (.ref g) = true ∧ FnR P w K mg base CX0 k g sp
structure SlR1 {α : Type} (R : Rp α) (C : Addr) : Prop where
  at_ : ∀ {F : Hp} {v : V} {a : α}, R.r F v a → ∃ p dx vs, v = .ref p ∧ Slt F p C dx vs
section
variable {prog : Program} {w : World} {A : Around} {E : Value → Shared → Prop} {s : Shared}
theorem fm_congr {α β : Type} {f g : α → Option β} : ∀ {l : List α}, (∀ x ∈ l, f x = g x) → l.filterMap f = l.filterMap g
  | [], _ => rfl
  | x :: l, h => by
    rw [List.filterMap_cons, List.filterMap_cons, h x (List.mem_cons_self ..), fm_congr fun y hy => h y (List.mem_cons_of_mem _ hy)]
end
section
variable {Γ Γ' Γ'' Δ α β γ δ κ : Type} {μ : Md} {E : EV Γ} {E' : EV Γ'} {El : EV Δ} {Ra : Rp α} {Rb : Rp β} {R : Rp γ} {Rk : Rp κ} {kf : κ → Key} {K : PySem.W.Frag}
def rOpt (R : Rp α) : Rp (Option α) := ⟨fun F v a => (a = none ∧ v = .non) ∨ ∃ x, a = some x ∧ R.r F v x ∧ v ≠ .non, fun s h => h.imp id fun ⟨x, e, r, n⟩ => ⟨x, e, R.st s r, n⟩⟩
structure NnR (R : Rp α) : Prop where
  nn : ∀ {F : Hp} {v : V} {a : α}, R.r F v a → v ≠ .non
theorem nn_tx {S : RA α} : NnR (rTx K S) := ⟨fun ⟨p, vs, e, _⟩ z => by rw [e] at z; cases z⟩
theorem nn_str : NnR rStr := ⟨fun e z => by cases (show _ = V.str _ from e).symm.trans z⟩
theorem nn_int : NnR rInt := ⟨fun e z => by cases (show _ = V.int _ from e).symm.trans z⟩
theorem coe_some (n : NnR Ra) {F : Hp} {v : V} {a : α} (h : Ra.r F v a) : (rOpt Ra).r F v (some a) := .inr ⟨a, rfl, h, n.nn h⟩
theorem coe_none {F : Hp} {v : V} {a : Unit} (h : rNon.r F v a) : (rOpt Ra).r F v none := .inl ⟨rfl, h⟩
theorem opt_get {F : Hp} {v : V} {a : Option α} {b : α} (h : (rOpt Ra).r F v a) (e : a = some b) : Ra.r F v b := by
  rcases h with ⟨h1, _⟩ | ⟨x, h1, h2, _⟩
  · rw [h1] at e; cases e
  · rw [h1] at e; cases e; exact h2
theorem e_coeX {te : TE} {m : Γ → M α} {f : α → β} (h : ∀ {F : Hp} {v : V} {a : α}, Ra.r F v a → Rb.r F v (f a)) (he : SE μ E Ra te m) : SE μ E Rb te fun ρ => (m ρ).bind fun a => .ret (f a) := fun k F H σ ρ c Q w e q =>
  he k F H σ ρ c Q w e (wp_imp q fun a c1 z v F1 H1 x1 w1 r1 => z v F1 H1 x1 w1 (h r1))
theorem e_the {te : TE} {m : Γ → M α} {f : α → Option β} (h : ∀ {F : Hp} {v : V} {a : α} {b : β}, Ra.r F v a → f a = some b → Rb.r F v b) (he : SE μ E Ra te m) : SE μ E Rb te fun ρ => (m ρ).bind fun a => .the (f a) := fun k F H σ ρ c Q w e q =>
  he k F H σ ρ c Q w e (wp_imp q fun a c1 ⟨b, eb, z⟩ v F1 H1 x1 w1 r1 => z v F1 H1 x1 w1 (h r1 eb))
theorem o_isN : OpS μ (fun x y H Q => y = .non ∧ Q (.bl (decide (x = .non))) H) (rOpt Ra) rNon rBl fun a _ => .ret a.isNone := fun k F H c x y a b Q w hx hy q => by
  refine ⟨hy, VP.now w q ?_⟩
  rcases hx with ⟨h1, h2⟩ | ⟨z, h1, _, h2⟩
  · subst h1 h2; rfl
  · subst h1; show V.bl _ = V.bl _; rw [decide_eq_false h2]; rfl
theorem o_inD {K : PySem.W.Frag} {da : α → PyData} {i j : Nat} (hA : DpR K Ra da i) (hB : DpR K (rLs Ra) (fun xs => .list (xs.map da)) j) (hi : i ≤ 64 := by decide) (hj : j ≤ 64 := by decide) :
    OpS μ (rInD K) Ra (rLs Ra) rBl fun a xs => .need ((da a).canLay0 = true ∧ (PyData.list (xs.map da)).canLay0 = true) (.ret ((xs.map da).any fun z => PyData.eqv z (da a))) := fun k F H c x y a b Q w hx hy q =>
  ⟨_, _, Dp.same w.sub (hA.dp hx), Dp.same w.sub (hB.dp hy), shaped_of (hA.deep a) hi q.1.1, shaped_of (hB.deep b) hj q.1.2, VP.now w q.2 rfl⟩
end
structure RV (Γ : Type) where
  r : Hp → (Nat → Option (Option V)) → Γ → Prop
  st : ∀ {F F' : Hp} {f : Nat → Option (Option V)} {a : Γ}, Same F F' → r F f a → r F' f a
  cg : ∀ {F : Hp} {f g : Nat → Option (Option V)} {a : Γ}, (∀ i v, f i = some (some v) → g i = some (some v)) → r F f a → r F g a
structure VGet {Γ α : Type} (E : RV Γ) (i : Nat) (R : Rp α) (g : Γ → α) : Prop where
  get : ∀ {F : Hp} {f : Nat → Option (Option V)} {a : Γ}, E.r F f a → ∃ v, f i = some (some v) ∧ R.r F v (g a)
structure VPut {Γ Γ' β : Type} (E : RV Γ) (i : Nat) (R : Rp β) (E' : RV Γ') (put : Γ → β → Γ') : Prop where
  put : ∀ {F : Hp} {f g : Nat → Option (Option V)} {a : Γ} {b : β} {y : V}, E.r F f a → R.r F y b → g i = some (some y) → (∀ j v, j ≠ i → f j = some (some v) → g j = some (some v)) → E'.r F g (put a b)
def SelfAt {Γ : Type} (C : Addr) (U : RV Γ) (p : Option Addr) (H0 F H : Hp) (D dx : Addr) (a : Γ) : Prop :=
  dx ≠ D ∧ F D = none ∧ H0 D = none ∧ H0 dx = none ∧ p ≠ some D ∧ p ≠ some dx ∧
  ∃ vs, U.r F (fun i => vs[i]?) a ∧ ((H D = some (.ins C dx []) ∧ H dx = some (.own D) ∧ F dx = none ∧ vs = []) ∨ (H D = some (SlO D C dx vs) ∧ H dx = some (.xd [])))
structure PlE {Γ : Type} (E : EV Γ) : Prop where
  upd : ∀ {p : Option Addr} {H0 F H : Hp} {σ : L2.St} {ρ : Γ} {D : Addr} {x : HO}, (∃ o, H D = some o ∧ lsty o = false) → E.r p H0 F H σ ρ → E.r p H0 F (L2.upd H D x) σ ρ
  fz : ∀ {p : Option Addr} {H0 F F' H : Hp} {σ : L2.St} {ρ : Γ}, Same F F' → (∀ D, F D = none → F' D ≠ none → ∃ o, H D = some o ∧ lsty o = false) → E.r p H0 F H σ ρ → E.r p H0 F' H σ ρ
theorem SelfAt.slt {Γ : Type} {C : Addr} {U : RV Γ} {p : Option Addr} {H0 F H : Hp} {D dx : Addr} {a : Γ} (h : SelfAt C U p H0 F H D dx a) : ∃ vs, Slt H D C dx vs ∧ U.r F (fun i => vs[i]?) a := by
  obtain ⟨_, _, _, _, _, _, vs, k, h⟩ := h
  rcases h with ⟨h1, _, _, h4⟩ | ⟨h1, h2⟩
  · exact ⟨vs, .inl ⟨h1, h4⟩, k⟩
  · exact ⟨vs, .inr ⟨h1, h2⟩, k⟩
theorem SelfAt.put {Γ Γ' β : Type} {C : Addr} {U : RV Γ} {U' : RV Γ'} {i : Nat} {R : Rp β} {put : Γ → β → Γ'} {k : Cn} {F H : Hp} {c : Nat} {D dx : Addr} {a : Γ} {b : β} {y : V} (hv : VPut U i R U' put) (w : Wo k F H c) (h : SelfAt C U k.p k.H0 F H D dx a) (r : R.r F y b) :
    ∃ vs, Slt H D C dx vs ∧ Wo k F (slH H D C dx (SlX.putS i y vs)) c ∧ SelfAt C U' k.p k.H0 F (slH H D C dx (SlX.putS i y vs)) D dx (put a b) := by
  obtain ⟨n, f, h1, h2, p1, p2, vs, kk, hh⟩ := h
  have kv : U'.r F (fun j => (SlX.putS i y vs)[j]?) (put a b) := hv.put kk r (putS_get i y vs) fun j v nj e => (putS_ne nj).mpr e
  have fin : Wo k F (slH H D C dx (SlX.putS i y vs)) c := by
    rcases hh with ⟨a1, a2, a3, a4⟩ | ⟨a1, a2⟩
    · exact (w.mod (o := .xd []) h2 a3).mod h1 f
    · have e : slH H D C dx (SlX.putS i y vs) = upd H D (SlO D C dx (SlX.putS i y vs)) := by
        funext b'
        unfold slH
        by_cases z : b' = D
        · rw [z, upd_same, upd_same]
        · rw [upd_ne z, upd_ne z]
          by_cases z2 : b' = dx
          · rw [z2, upd_same, a2]
          · rw [upd_ne z2]
      rw [e]; exact w.mod h1 f
  have sl : Slt H D C dx vs := by
    rcases hh with ⟨a1, _, _, a4⟩ | ⟨a1, a2⟩
    · exact .inl ⟨a1, a4⟩
    · exact .inr ⟨a1, a2⟩
  exact ⟨vs, sl, fin, n, f, h1, h2, p1, p2, _, kv, .inr ⟨upd_same, by unfold slH; rw [upd_ne n, upd_same]⟩⟩
theorem PlE.slH {Γ : Type} {E : EV Γ} (h : PlE E) {C : Addr} {p : Option Addr} {H0 F H : Hp} {σ : L2.St} {ρ : Γ} {D dx : Addr} {vs vs' : List (Option V)} (n : dx ≠ D) (sl : Slt H D C dx vs) (hd : ∃ o, H dx = some o ∧ lsty o = false) (k : E.r p H0 F H σ ρ) : E.r p H0 F (SlX.slH H D C dx vs') σ ρ := by
  refine h.upd ?_ (h.upd hd k)
  rw [upd_ne (Ne.symm n)]
  rcases sl with ⟨a1, _⟩ | ⟨a1, _⟩
  · exact ⟨_, a1, rfl⟩
  · exact ⟨_, a1, rfl⟩
section
variable {Γ Γ' Δ α β γ Λ Λ' : Type} {μ : Md} {E : EV Γ} {El : EV Δ} {Rb : Rp β} {R : Rp γ} {A C : Addr} {U : RV Λ} {U' : RV Λ'}
structure SlG (Ro : Rp α) (C : Addr) (i : Nat) (Rb : Rp β) (P : α → β → Prop) : Prop where
  get : ∀ {F : Hp} {v : V} {a : α}, Ro.r F v a → ∃ p dx vs x b, v = .ref p ∧ Slt F p C dx vs ∧ vs[i]? = some (some x) ∧ Rb.r F x b ∧ P a b
end
section
variable {Γ Γ' Δ α β γ Λ : Type} {μ : Md} {E : EV Γ} {E' : EV Γ'} {Rb : Rp β} {R : Rp γ} {C : Addr} {U : RV Λ}
structure StI {Λ0 : Type} (C : Addr) (U0 : RV Λ0) (z : Λ0) (S : RA α) (n : Nat) (E : EV Γ) (ρ0 : α → Γ) : Prop where
  v0 : ∀ {F : Hp} {f : Nat → Option (Option V)}, U0.r F f z
  r : St0 S n E ρ0
end
def rCls (C : Addr) : Rp Unit := ⟨fun _ v _ => v = .ref C, fun _ h => h⟩
section
variable {Γ : Type} {α β γ δ Λ : Type} {E : EV Γ} {C : Addr} {U : RV Λ} {Ro : Rp α} {Rb : Rp β} {R : Rp γ} {Rd : Rp δ} {K : PySem.W.Frag}
structure OdT (K : PySem.W.Frag) (C : Addr) : Prop where
  k : ∀ t ∈ (["int", "bool", "str", "NoneType", "list", "tuple", "dict"] : List String), PySem.W.kitOne K (.type t) (.ref C) = some false ∧ PySem.W.notFirst K C (.type t) = true
end
structure GCm (P : Program) (w : World) (K : PySem.W.Frag) (mg : Str → Option Value) (base : Heap) (C : Addr) (m : Str) (k : Nat) (sp : Sp) : Prop where
  ex : ∃ mc p g, ClX.CRead K C mc ∧ ClX.CMet K C mc m p g ∧ FnR P w K mg base CX0 k g sp
section
variable {X : Cx} {C : Addr} {m : Str} {k : Nat} {sp : Sp} {o e : Expr} {es : List Expr} {ta : TE} {t : TA} {pos apos : Pos} {pl : Sem Bool}
theorem pe_cm (G : GCm X.prog X.w X.K X.mg X.base C m k sp) (hr : Room k X.A) (he : PE X o ta) (ha : PA X (e :: es) t)
    (hst : starEach (e :: es) X.env = (false, eval e X.env) :: starEach es X.env := by rfl) (hpl : (backTo pos (starEach es X.env)).any (·.1) = false := by rfl)
    (ht : eval (.Call (.Attribute o m apos) (e :: es) [] pos) X.env = (do
      let ov ← eval o X.env
      standAt apos.atName
      let (f, first) ← holding [ov] (getMethod ov m pl)
      callWith pos f first (backTo pos (starEach (e :: es) X.env)) (backToKw pos (keywordEach [] X.env))) := by rfl) : PE X (.Call (.Attribute o m apos) (e :: es) [] pos) (ClX.tCMeth C sp E0 ta t) := by
  obtain ⟨mc, p, g, h1, h2, h3⟩ := G.ex
  exact ClX.pe_cmeth he h1 h2 h3 hr pass0 ha hst hpl ht
end
section
variable {Γ α β : Type} {E : EV Γ} {C : Addr} {R : Rp α}
theorem e_cm {S : RA β} {t : TA} {mb : Γ → M β} {m : Unit × β → M α} (hb : SA md0 E S t mb) : SE md0 E R (ClX.tCMeth C (spOf (aCons (rCls C) S) R m) E0 (tC (.ref C)) t) fun ρ => (mb ρ).bind fun b => (m ((), b)).still := fun k F H σ ρ c Q w e q =>
  ⟨rfl, hb k F H σ ρ c _ w e (wp_imp q fun b c2 q ws F2 H2 x2 w2 r2 =>
      ⟨F2, ((), b), w2.sub, ⟨_, ws, rfl, rfl, r2⟩, (m ((), b)).mono 0 (fun b _ z u F' H' x r => z u F' H' (x2.trans (w2.call x).1) (w2.call x).2 r) (fun _ z => XP.no w2 z) q⟩)⟩
end
def rTyV (t : String) : Rp Unit := ⟨fun _ v _ => v = .ty t, fun _ h => h⟩
theorem e_tyV {Γ : Type} {μ : Md} {E : EV Γ} {t : String} : SE μ E (rTyV t) (tC (.ty t)) fun _ => .ret () := e_c fun _ => rfl
section
variable {α β γ : Type} {K : PySem.W.Frag} {Ra : Rp α} {Rb : Rp β}
theorem c_isiT {t : Value} {u : String} {b : Bool} (ht : TyR K Ra t) (hk : PySem.W.kitOne K t (.type u) = some b) : CaS md0 (rIsiU K) (a2 Ra (rTyV u)) rBl fun _ => .ret b := c_isi ht (.ty u) hk fun h => h
end
theorem hu65 {A : Around} {k : Nat} (hr : Room k A) : A.units + 65 < cLine := by have := hr.un; omega
theorem s_never {Γ Γ' Δ β : Type} {μ : Md} {E : EV Γ} {E' : EV Γ'} {El : EV Δ} {R : Rp β} {t : TS} : SS μ E E' El R t fun _ => M.none := fun k F H σ ρ c D w e h => h.elim
def rD0 : Rp Unit := ⟨fun F v _ => ∃ p, v = .ref p ∧ F p = some (.dK []), fun s ⟨p, e, h⟩ => ⟨p, e, s _ _ h⟩⟩
section
variable {Γ α β γ : Type} {μ : Md} {E : EV Γ} {K : PySem.W.Frag} {Ra : Rp α} {Rb : Rp β}
theorem e_dnew : SE μ E rD0 (fun σ H Q => ∀ d, H d = none → Q (.ref d) (upd H d (.dK []))) fun _ => .ret () := fun k F H σ ρ c Q w e q => fun d n => VP.newT w q n fun _ => ⟨d, rfl, upd_same⟩
theorem tr_d0 : TyR K rD0 (.type "dict") := ⟨fun s ⟨p, e, h⟩ => by subst e; exact .x (.base (.dK (s _ _ h)))⟩
end
structure ItT (K : PySem.W.Frag) (C fi fl : Addr) : Prop where
  it : PySem.W.findIn K (.ref C) "__iter__" = some (some (.ref fi))
  itF : PySem.W.isFn K (.ref fi) = true
  ln : PySem.W.findIn K (.ref C) "__len__" = some (some (.ref fl))
  lnF : PySem.W.isFn K (.ref fl) = true
structure GLs (P : Program) (w : World) (K : PySem.W.Frag) (mg : Str → Option Value) (base : Heap) (C : Addr) (k : Nat) (spI spL : Sp) : Prop where
  ex : ∃ fi fl, ItT K C fi fl ∧ FnR P w K mg base CX0 k fi spI ∧ FnR P w K mg base CX0 k fl spL
end PF
set_option maxHeartbeats 4000000
namespace PF
open PySem PySem.Spec PyProof.Rows L2 SlX
section
variable {Γ : Type} {α β γ : Type} {μ : Md} {E : EV Γ} {Ra : Rp α} {Rb : Rp β} {R : Rp γ} {K : PySem.W.Frag}
theorem e_roll {i : Nat} {g : Γ → Unit} {te : TE} {m : Γ → M Int} (hi : GetS E i sDice g) (he : SE md0 E rInt te m) : SE md0 E rInt (tCall spRoll [] E0 (tCons (tVar i) (tCons te tNil))) fun ρ => (m ρ).bind fun t => M.roll t := fun k F H σ ρ c Q w e h => by
  obtain ⟨o, h1, p, rfl, hp⟩ := hi.get e.r
  refine ⟨.ref p, h1, he k F H σ ρ c _ w e (wp_imp h fun t c1 ⟨q1, q2, q3, q⟩ v F1 H1 x1 w1 r1 => ?_)⟩
  obtain ⟨d1, d0, d2⟩ := w1.dice p hp
  refine ⟨p, t, c1, by rw [r1]; rfl, d2, by omega, q2, q3, fun r H' h1 h2 s d => ?_⟩
  have d2' := d2
  obtain ⟨_, _, _, hd, _⟩ := d2'
  have d' := d
  obtain ⟨_, _, _, hd', _⟩ := d'
  have x2 : ExtX (some p) F1 H1 F1 H' := ⟨Same.refl _, fun b o z => s b o (fun y => by subst y; rw [d1] at z; cases z) (w1.sub b o z), fun b o n _ z => s b o (fun y => n (by rw [y])) z, fun _ _ => rfl, fun b z => by
    by_cases y : b = p
    · subst y; rw [hd']; simp
    · cases zz : H1 b with
      | none => exact absurd zz z
      | some o => rw [s b o y zz]; simp, fun ta p hp => (ta p hp).go (ta p hp).1 (fun o z => s p.1 o ((ta p hp).nd hd rfl) z) (Same.refl _)⟩
  obtain ⟨x3, w3⟩ := w1.callD hp x2 d1 d
  exact q r h1 h2 _ F1 H' (x1.trans x3) w3 rfl
theorem e_pick {i : Nat} {g : Γ → Unit} {tl : TE} {m : Γ → M (List α)} (hi : GetS E i sDice g) (hl : SE md0 E (rLs Ra) tl m) : SE md0 E Ra (tCall spPick [] E0 (tCons (tVar i) (tCons tl tNil))) fun ρ => (m ρ).bind fun t => M.pick t := fun k F H σ ρ c Q w e h => by
  obtain ⟨o, h1, p, rfl, hp⟩ := hi.get e.r
  refine ⟨.ref p, h1, hl k F H σ ρ c _ w e (wp_imp h fun xs c1 ⟨q1, q2, q3, q⟩ v F1 H1 x1 w1 ⟨l, vs, ev, hlF, al⟩ => ?_)⟩
  obtain ⟨d1, d0, d2⟩ := w1.dice p hp
  have len := al.len
  have lp : l ≠ p := fun z => by rw [z, d1] at hlF; cases hlF
  refine ⟨p, l, vs, c1, by rw [ev]; rfl, d2, by omega, w1.sub _ _ hlF, lp, by omega, by omega, fun u H' hu s d => ?_⟩
  have d2' := d2
  obtain ⟨_, _, _, hd, _⟩ := d2'
  have d' := d
  obtain ⟨_, _, _, hd', _⟩ := d'
  have x2 : ExtX (some p) F1 H1 F1 H' := ⟨Same.refl _, fun b o z => s b o (fun y => by subst y; rw [d1] at z; cases z) (w1.sub b o z), fun b o n _ z => s b o (fun y => n (by rw [y])) z, fun _ _ => rfl, fun b z => by
    by_cases y : b = p
    · subst y; rw [hd']; simp
    · cases zz : H1 b with
      | none => exact absurd zz z
      | some o => rw [s b o y zz]; simp, fun ta p hp => (ta p hp).go (ta p hp).1 (fun o z => s p.1 o ((ta p hp).nd hd rfl) z) (Same.refl _)⟩
  obtain ⟨x3, w3⟩ := w1.callD hp x2 d1 d
  obtain ⟨j, hj, ej⟩ := List.getElem_of_mem hu
  have hj2 : j < xs.length := by omega
  obtain ⟨u', hu', r⟩ := al.get (List.getElem?_eq_getElem hj2)
  rw [List.getElem?_eq_getElem hj, ej] at hu'
  cases hu'
  exact q _ (List.getElem_mem hj2) u F1 H' (x1.trans x3) w3 r
end
end PF
set_option maxHeartbeats 1000000
namespace PF
open PySem PySem.Spec PyProof.Rows L2 SlX
section
variable {α β κ : Type}
structure ModD {Γ : Type} (E : EV Γ) (i : Nat) (kf : κ → Key) (R : Rp α) (g : Γ → List (κ × α)) (put : Γ → List (κ × α) → Γ) : Prop where
  get : ∀ {p : Option Addr} {H0 F H : Hp} {σ : L2.St} {ρ : Γ}, E.r p H0 F H σ ρ → ∃ D kvs, σ[i]? = some (some (.ref D)) ∧ H D = some (.dK kvs) ∧ AllD kf (R.r F) kvs (g ρ) ∧ D ∈ E.owns σ
  mod : ∀ {p : Option Addr} {H0 F H : Hp} {σ : L2.St} {ρ : Γ} {D : Addr} {kvs : List (Key × V)} {l : List (κ × α)}, E.r p H0 F H σ ρ → (E.owns σ).Nodup → σ[i]? = some (some (.ref D)) → AllD kf (R.r F) kvs l → E.r p H0 F (upd H D (.dK kvs)) σ (put ρ l)
end
section
variable {Γ Γ' Γ'' Δ α β γ δ κ : Type} {μ : Md} {E : EV Γ} {E' : EV Γ'} {E'' : EV Γ''} {El : EV Δ} {Ra : Rp α} {Rb : Rp β} {Rk : Rp κ} {R : Rp γ} {kf : κ → Key} [DecidableEq κ]
structure FzD (E : EV Γ) (i : Nat) (kf : κ → Key) (R : Rp α) (E' : EV Γ') (f : Γ → Γ') : Prop where
  get : ∀ {p : Option Addr} {H0 F H : Hp} {σ : L2.St} {ρ : Γ}, E.r p H0 F H σ ρ → ∃ D kvs, σ[i]? = some (some (.ref D)) ∧ H D = some (.dK kvs) ∧ F D = none ∧ H0 D = none ∧ D ∈ E.owns σ
  put : ∀ {p : Option Addr} {H0 F H : Hp} {σ : L2.St} {ρ : Γ} {D : Addr} {kvs : List (Key × V)} {o : Obj}, E.r p H0 F H σ ρ → (E.owns σ).Nodup → σ[i]? = some (some (.ref D)) → H D = some (.dK kvs) → Same F (upd F D (.frz o (.dK kvs))) → E'.r p H0 (upd F D (.frz o (.dK kvs))) (upd H D (.frz o (.dK kvs))) σ (f ρ)
  ow : ∀ σ, (E'.owns σ).Sublist (E.owns σ)
end
structure GF (P : Program) (w : World) (K : PySem.W.Frag) (mg : Str → Option Value) (base : Heap) (C : Addr) (k : Nat) (sp : Sp) : Prop where
  ex : ∃ g, PySem.W.findIn K (.ref C) "__str__" = some (some (.ref g)) ∧ PySem.W.isFn K (.ref g) = true ∧ FnR P w K mg base CX0 k g sp
  fm : PySem.W.findIn K (.ref C) "__format__" = some (some (.builtin "object.__format__"))
  ob : PySem.W.mroIn K C (.type "object") = some true
def recK (ks : List Str) (vs : List V) : List (L2.Key × V) := (ks.map Sum.inr).zip vs
inductive RecT : List Str → TA → List (TE × TE) → Prop where
  | nil : RecT [] tNil []
  | cons {k : Str} {ks : List Str} {tv : TE} {t : TA} {trs : List (TE × TE)} (h : RecT ks t trs) : RecT (k :: ks) (tCons tv t) ((tC (.str k), tv) :: trs)
structure GMKg (P : Program) (w : World) (K : PySem.W.Frag) (mg : Str → Option Value) (base : Heap) (x : Str) (C : Addr) (k n : Nat) (ks : List Str) (gV : List V → List V → List V) (sp : Sp) : Prop where
  ex : ∃ f fd ps g, mg x = some (.ref C) ∧ Mk K C f ∧ KBn K fd ps (n + 1) ks g gV ∧ FnOk P w K mg base CX0 k f fd ps sp
def rForm (CF : Addr) : Rp Nm := ⟨fun F v n => At4 CF F v n, fun s h => h.same s⟩
section
variable {Γ Γ' Γ'' Γ3 Γ4 Δ α β γ δ ε κ : Type} {μ : Md} {E : EV Γ} {E' : EV Γ'} {E'' : EV Γ''} {E3 : EV Γ3} {E4 : EV Γ4} {El : EV Δ} {Ra : Rp α} {Rb : Rp β} {R : Rp γ} {Rk : Rp κ} {kf : κ → L2.Key} {K : PySem.W.Frag} {CN CF : Addr}
theorem e_mkForm {ta tb tr tq : TE} {ma mb mr mq : Γ → M Int} (ha : SE md0 E rInt ta ma) (hb : SE md0 E rInt tb mb) (hr : SE md0 E rInt tr mr) (hq : SE md0 E rInt tq mq) :
    SE md0 E (rForm CF) (tMake CF (spFormI CF) [] E0 (tCons ta (tCons tb (tCons tr (tCons tq tNil))))) fun ρ => (ma ρ).bind fun a => (mb ρ).bind fun b => (mr ρ).bind fun r => (mq ρ).bind fun q => .need (q ≠ 0 ∧ Bd 9000 q) (.ret (mkNm a b r q)) := fun k F H σ ρ c Q w e h =>
  ha k F H σ ρ c _ w e (wp_imp h fun a c1 q v1 F1 H1 x1 w1 r1 => hb k F1 H1 σ ρ c1 _ w1 (e.step x1) (wp_imp q fun b c2 q v2 F2 H2 x2 w2 r2 => hr k F2 H2 σ ρ c2 _ w2 (e.step (x1.trans x2)) (wp_imp q fun r c3 q v3 F3 H3 x3 w3 r3 => hq k F3 H3 σ ρ c3 _ w3 (e.step ((x1.trans x2).trans x3)) (wp_imp q fun d c4 ⟨⟨q1, q2⟩, q⟩ v4 F4 H4 x4 w4 r4 x dx nx nd ne => by
    subst r1 r2 r3 r4
    refine ⟨x, dx, a, b, r, d, rfl, ne, .inl ⟨upd_same, rfl⟩, q1, q2, ?_⟩
    exact ⟨rfl, VP.same w4 (VP.ext (((x1.trans x2).trans x3).trans x4) q) (same_made nx nd) (AtN.frz (n := mkNm a b r d) (C := CF) ⟨x, dx, rfl, slH_slt ne, nx, nd⟩ w4.sub)⟩))))
theorem e_mkNumF {ta : TE} {ma : Γ → M Nm} (ha : SE md0 E (rForm CF) ta ma) : SE md0 E (rNum CN) (tMake CN (spNumI CN CF) [.int 0, .int 0, .int 1] E0 (tCons ta tNil)) ma := fun k F H σ ρ c Q w e h =>
  ha k F H σ ρ c _ w e (wp_imp h fun n c1 q v F1 H1 x1 w1 r1 => num_made (.inl ⟨v, rfl, At4.same r1 w1.sub⟩) fun v H' s h => VP.same w1 (VP.ext x1 q) s (h.frz w1.sub))
theorem e_partition {to te : TE} {mo me : Γ → M Str} (ho : SE μ E rStr to mo) (he : SE μ E rStr te me) :
    SE μ E (rTx K (aCons rStr (aCons rStr (aCons rStr aNil)))) (tM1 (fun x xs H Q => ∃ a b, x = .str a ∧ xs = [.str b] ∧ (b.length == 0) = false ∧ a.length ≤ sizeLine ∧ ∀ p, H p = none → Q (.ref p) (upd H p (.tup [.str (Txt.partition a b).1, .str (Txt.partition a b).2.1, .str (Txt.partition a b).2.2]))) to te)
      fun ρ => (mo ρ).bind fun a => (me ρ).bind fun b => .need ((b.length == 0) = false ∧ a.length ≤ sizeLine) (.ret ((Txt.partition a b).1, (Txt.partition a b).2.1, (Txt.partition a b).2.2, ())) := fun k F H σ ρ c Q w e h =>
  ho k F H σ ρ c _ w e (wp_imp h fun a c1 q v F1 H1 x1 w1 r1 => ⟨⟨a, r1⟩, he k F1 H1 σ ρ c1 _ w1 (e.step x1) (wp_imp q fun b c2 ⟨⟨q1, q2⟩, q⟩ u F2 H2 x2 w2 r2 => ⟨a, b, r1, by rw [r2], q1, q2, fun p n => VP.newT w2 (VP.ext (x1.trans x2) q) n fun s => ⟨p, _, rfl, .of upd_same, _, _, rfl, rfl, _, _, rfl, rfl, _, _, rfl, rfl, rfl⟩⟩)⟩)
theorem e_rfind {to te : TE} {mo me : Γ → M Str} (ho : SE μ E rStr to mo) (he : SE μ E rStr te me) :
    SE μ E rInt (tM1 (fun x xs H Q => ∃ a b, x = .str a ∧ xs = [.str b] ∧ Q (.int (Txt.rfind a b)) H) to te) fun ρ => (mo ρ).bind fun a => (me ρ).bind fun b => .ret (Txt.rfind a b) := fun k F H σ ρ c Q w e h =>
  ho k F H σ ρ c _ w e (wp_imp h fun a c1 q v F1 H1 x1 w1 r1 => ⟨⟨a, r1⟩, he k F1 H1 σ ρ c1 _ w1 (e.step x1) (wp_imp q fun b c2 q u F2 H2 x2 w2 r2 => ⟨a, b, r1, by rw [r2], q _ F2 H2 (x1.trans x2) w2 rfl⟩)⟩)
end
theorem tr_num {K : PySem.W.Frag} {mg : Str → Option Value} {CN CF : Addr} (T : NTxt K mg CN CF) : TyR K (rNum CN) (.ref CN) := ⟨fun s h => (At4.same h s).ty T.cN T.yN⟩
theorem nn_num {CN : Addr} : NnR (rNum CN) := ⟨fun ⟨p, dx, e, _⟩ z => by rw [e] at z; cases z⟩
def FnRS (P : Program) (w : World) (K : PySem.W.Frag) (mg : Str → Option Value) (base : Heap) (k : Nat) (f : Addr) (sp : Nat → Sp) : Prop :=
  ∀ (A : Around) (outer : List Env) (s : Shared) (H : Hp) (us : List Value) (vs : List V) (Q : VK) (E : XK), Room k A → Env0 P w K mg base A outer s H → Vals vs us → sp s.heap.objs.size vs H Q E → codeAny (model P w) A (.call (.ref f) ⟨us, []⟩) (CR CX0 outer P w H s Q E) s
structure GIt (P : Program) (w : World) (K : PySem.W.Frag) (mg : Str → Option Value) (base : Heap) (C : Addr) (k : Nat) (sp : Nat → Sp) : Prop where
  ex : ∃ g, PySem.W.findIn K (.ref C) "__iter__" = some (some (.ref g)) ∧ PySem.W.isFn K (.ref g) = true ∧ FnRS P w K mg base k g sp
structure GCo (P : Program) (w : World) (K : PySem.W.Frag) (mg : Str → Option Value) (base : Heap) (C : Addr) (k : Nat) (sp : Sp) : Prop where
  ex : ∃ g, PySem.W.findIn K (.ref C) "__call__" = some (some (.ref g)) ∧ PySem.W.isFn K (.ref g) = true ∧ PySem.W.fnIn K g = true ∧ FnR P w K mg base CX0 k g sp
end PF
namespace PySem.W
open PySem PySem.Calls PyProof.Rows PyProof.V PySem.Spec
section
variable {prog : Program} {w : World} {K : Type} [DecidableEq K] {knd : KeyKind prog w K} {A : Around} {E : Value → Shared → Prop} {s : Shared}
theorem samePairsG {nm : String} {a b : Addr} {ka kb : List (K × Value)} {Q : Bool → Shared → Prop} (ha : (a == sysModules) = false) (hb : (b == sysModules) = false)
    (da : s.heap.DictOf knd a ka) (db : s.heap.DictOf knd b kb) (I : Shared → Prop) (keep : ∀ s', I s' → s'.heap.get? a = s.heap.get? a ∧ s'.heap.get? b = s.heap.get? b) (hl : ka.length = kb.length)
    (turn : ∀ (i : Nat) k v, ka[i]? = some (k, v) → ∃ y, valueAt kb k = some y ∧ ∀ s', I s' → wpAny (model prog w) A (eqBool v y) (fun r s2 => r = true ∧ I s2) E s')
    (i0 : I s) (fin : ∀ s', I s' → Q true s') : wpAny (model prog w) A (Builtin.Dict.samePairs nm a b) Q E s := by
  obtain ⟨oa, es, ep, hoa, _, hda, hka, hpa, _⟩ := da
  obtain ⟨ob, es', ep', hob, _, hdb, hkb, hpb, _⟩ := db
  have hla : ka.length = es.size := by rw [← hpa.length]; exact Array.length_toList
  have hlb : kb.length = es'.size := by rw [← hpb.length]; exact Array.length_toList
  have hfind : ∀ k, findBy knd.is es' k = valueAt kb k := fun k => by
    rw [← hpb.find k]
    clear hlb hpb hkb hdb hob
    obtain ⟨l⟩ := es'
    simp [findBy]
  have hoa' : ∀ s', I s' → s'.heap.get? a = some oa := fun s' i => by rw [(keep s' i).1, hoa]
  have hob' : ∀ s', I s' → s'.heap.get? b = some ob := fun s' i => by rw [(keep s' i).2, hob]
  unfold Builtin.Dict.samePairs Builtin.Dict.showsAll
  rw [if_neg (show ¬ (a == sysModules) = true by rw [ha]; exact Bool.false_ne_true), if_neg (show ¬ (b == sysModules) = true by rw [hb]; exact Bool.false_ne_true)]
  refine wpAny_bind (wpAny_pure (wpAny_bind (wpAny_pure ?_)))
  refine wpAny_bind (wpAny_dictEntries hoa hda ?_)
  dsimp only
  refine wpAny_bind (wpAny_dictEntries hob hdb ?_)
  rw [if_neg (by rw [← hla, ← hlb, hl]; simp)]
  refine wpAny_bind (wpAny_dictEpoch hoa hda ?_)
  refine wpAny_bind ?_
  rw [Std.Legacy.Range.forIn_eq_forIn_range']
  simp only [Std.Legacy.Range.size, Nat.sub_zero, Nat.add_sub_cancel, Nat.div_one]
  refine wpAny_forIn_list _
    (fun rest q s' => I s' ∧ q = (none, ()) ∧ ∃ i, rest = List.range' i (es.size - i) ∧ i ≤ es.size)
    _ ?_ ?_ _ _ ⟨i0, rfl, 0, by simp, Nat.zero_le _⟩
  · rintro x rest q s' ⟨Is, rfl, i, hr, hi⟩
    have hlt : i < es.size := by
      rcases Nat.lt_or_ge i es.size with h | h
      · exact h
      · rw [Nat.sub_eq_zero_of_le h] at hr; simp at hr
    obtain ⟨rfl, hrest⟩ : x = i ∧ rest = List.range' (i + 1) (es.size - (i + 1)) := by
      have e : es.size - i = (es.size - (i + 1)) + 1 := by omega
      rw [e, List.range'_succ] at hr
      injection hr with h1 h2
      exact ⟨h1, h2⟩
    refine wpAny_bind (wpAny_dictEntries (hoa' _ Is) hda ?_)
    rw [Array.getElem?_eq_getElem hlt]
    have hlt' : x < ka.length := by rw [hla]; exact hlt
    obtain ⟨k, v, hkv⟩ : ∃ k v, ka[x] = (k, v) := ⟨_, _, rfl⟩
    have hget : ka[x]? = some (k, v) := by rw [List.getElem?_eq_getElem hlt', hkv]
    obtain ⟨hkey, hval⟩ := hpa.get? (i := x) (e := es[x]) (k := k) (v := v) (by rw [Array.getElem?_toList]; exact Array.getElem?_eq_getElem hlt) hget
    obtain ⟨k', hk', hh⟩ := hka es[x] (Array.getElem_mem hlt)
    have ekk : k' = k := knd.inj _ _ _ hk' hkey
    rw [ekk] at hh
    obtain ⟨y, hy, he⟩ := turn x k v hget
    show wpAny _ _ (holding [es[x].key, es[x].val] _ >>= _) _ _ _
    rw [hh]
    refine wpAny_bind (wpAny_holding (wpAny_bind (wpAny_dictFind_of hkey (hob' _ Is) hdb hkb ?_)))
    cases hj : es'.findIdx? fun e => knd.is k e.key with
    | none =>
      have hn : valueAt kb k = none := by rw [← hfind k, findBy_of_findIdx?, hj]
      rw [hn] at hy; exact nomatch hy
    | some j =>
      obtain ⟨hjlt, _, _⟩ := Array.findIdx?_eq_some_iff_getElem.mp hj
      have hv' : valueAt kb k = some es'[j].val := by
        rw [← hfind k, findBy_of_findIdx?, hj]
        simp [Array.getElem?_eq_getElem hjlt]
      refine wpAny_bind (wpAny_dictEntries (hob' _ Is) hdb ?_)
      rw [Array.getElem?_eq_getElem hjlt]
      have ey : es'[j].val = y := Option.some.inj (hv'.symm.trans hy)
      have he := he s' Is
      rw [← ey, ← hval] at he
      refine wpAny_holding (wpAny_mono he (fun r s2 q => ?_) fun _ _ x => x)
      obtain ⟨hr, I2⟩ := q
      subst hr
      show wpAny _ _ (if (!true) = true then _ else _) _ _ _
      rw [if_neg (by decide)]
      refine wpAny_bind (wpAny_dictEpoch (hoa' _ I2) hda ?_)
      rw [if_neg (by simp)]
      exact wpAny_pure ⟨I2, rfl, x + 1, hrest, hlt⟩
  · rintro q s' ⟨Is, rfl, i, hr, hi⟩
    exact wpAny_pure (fin s' Is)
theorem rcG_dictsNe {a b : Addr} {ka kb : List (K × Value)} {Q : Value → Shared → Prop} (ha : (a == sysModules) = false) (hb : (b == sysModules) = false)
    (da : s.heap.DictOf knd a ka) (db : s.heap.DictOf knd b kb) (hu : A.units < cLine) (I : Shared → Prop) (keep : ∀ s', I s' → s'.heap.get? a = s.heap.get? a ∧ s'.heap.get? b = s.heap.get? b) (hl : ka.length = kb.length)
    (turn : ∀ (i : Nat) k v, ka[i]? = some (k, v) → ∃ y, valueAt kb k = some y ∧ ∀ s', I s' → wpAny (model prog w) A.in1 (eqBool v y) (fun r s2 => r = true ∧ I s2) E s')
    (i0 : I s) (fin : ∀ s', I s' → Q (.bool false) s') : wpAny (model prog w) A (richCompare .NotEq (.ref a) (.ref b)) Q E s := by
  refine wpAny_richCompare_same_room (op := .NotEq) da.typeIs db.typeIs PySem.F.slot_dict_ne (wpAny_call_entry PySem.F.slot_dict_ne da.typeIs PySem.F.entry_dict_ne ?_ (PySem.F.args_dict_ne_2 _ _)) hu
  show wpAny _ _ (Builtin.Dict.dictSlotArgs "__ne__" ⟨[.ref a, .ref b], []⟩ >>= _) _ _ s
  refine wpAny_bind ?_
  unfold Builtin.Dict.dictSlotArgs
  refine wpAny_bind (wpAny_notOrdered_dict da.typeIs ?_)
  show wpAny _ _ (pure (Value.ref a, Value.ref b)) _ _ s
  refine wpAny_pure ?_
  refine wpAny_bind (wpAny_isInstance (T := "dict") db.typeIs PySem.F.sub_dict_dict ?_)
  simp only [Bool.not_true, Bool.false_eq_true, if_false]
  refine wpAny_bind (wpAny_pure (wpAny_bind (wpAny_pure ?_)))
  refine wpAny_bind (samePairsG ha hb da db I keep hl turn i0 fun s' Is => ?_)
  exact wpAny_pure ⟨_, rfl, (fun x => nomatch x), fin s' Is⟩
end
end PySem.W
namespace PF
open PySem PySem.Spec PyProof.Rows L2 SlX
def DDct (D : Eqv) : Eqv := fun x y H => ∃ a b oa ob ka kb, x = .ref a ∧ y = .ref b ∧ H a = some (.frz oa (.dK ka)) ∧ H b = some (.frz ob (.dK kb)) ∧ ka.length = kb.length ∧ ∀ (i : Nat) k v, ka[i]? = some (k, v) → ∃ u, valV kb k = some u ∧ D v u H
def rNeG (D : Eqv) : R2 := fun x y H Q => D x y H ∧ ∀ H', Ext H H' → Q (.bl false) H'
theorem op_neD {X : Cx} {n : Nat} {D : Eqv} (hD : Mon D) (h : EqG X n D) (hr : Room (n + 1) X.A) : OpR X (compareOp .NotEq) (rNeG (DDct D)) := by
  intro pins s σ H x y v u Q I rx ry hq
  obtain ⟨⟨a, b, oa, ob, ka, kb, rfl, rfl, e1, e2, hl, al⟩, q⟩ := hq
  cases rx
  cases ry
  show wpAny (model X.prog X.w) X.A (richCompare .NotEq (.ref a) (.ref b)) (EP X pins σ Q) X.xe s
  obtain ⟨g1, _, na, vs, kv1, d1⟩ := (show ObjOk X.prog X.w H s.heap a (.frz oa (.dK ka)) from I.hok a _ e1)
  obtain ⟨g2, _, nb, us, kv2, d2⟩ := (show ObjOk X.prog X.w H s.heap b (.frz ob (.dK kb)) from I.hok b _ e2)
  refine PySem.W.rcG_dictsNe na nb d1 d2 hr.units0 (LoopI X pins σ H) (fun s' ⟨H', I', e⟩ => ?_) (by rw [← kv1.length, ← kv2.length]; exact hl) (fun i k v hv => ?_) ⟨H, I, Ext.rfl'⟩ fun s' ⟨H', I', e⟩ => ⟨.bl false, H', I', rfl, q H' e⟩
  · have h1 := (show ObjOk X.prog X.w H' s'.heap a (.frz oa (.dK ka)) from I'.hok a _ (e _ _ e1)).1
    have h2 := (show ObjOk X.prog X.w H' s'.heap b (.frz ob (.dK kb)) from I'.hok b _ (e _ _ e2)).1
    exact ⟨h1.trans g1.symm, h2.trans g2.symm⟩
  · obtain ⟨x, hx, rx⟩ := kv1.at' hv
    obtain ⟨y, hy, d⟩ := al i k x hx
    have rv := kv2.val k
    rw [hy] at rv
    cases e : valueAt us k with
    | none => rw [e] at rv; exact rv.elim
    | some z =>
      rw [e] at rv
      refine ⟨z, rfl, fun s' ⟨H', I', ex⟩ => ?_⟩
      refine wpAny_mono (h X.A.in1 pins s' σ H' x y v z ⟨hr.in1, rfl⟩ I' rx rv (hD _ _ _ _ ex d)) (fun r s2 q => ?_) fun _ _ x => x
      obtain ⟨hr', H2, I2, e2⟩ := q
      exact ⟨hr', H2, I2, ex.trans e2⟩
theorem AllD.at_ {κ α : Type} {kf : κ → L2.Key} {f : V → α → Prop} {kvs : List (L2.Key × V)} {l : List (κ × α)} (h : AllD kf f kvs l) : ∀ {i : Nat} {k : L2.Key} {v : V}, kvs[i]? = some (k, v) → ∃ k' a, (k', a) ∈ l ∧ k = kf k' ∧ f v a := by
  induction h with
  | nil => intro i k v hv; simp at hv
  | @cons v' k' a kvs l h t ih =>
    intro i k v hv
    cases i with
    | zero =>
      simp only [List.getElem?_cons_zero] at hv
      cases hv
      exact ⟨k', a, List.mem_cons_self .., rfl, h⟩
    | succ i =>
      rw [List.getElem?_cons_succ] at hv
      obtain ⟨k1, a1, m1, e1, r1⟩ := ih hv
      exact ⟨k1, a1, List.mem_cons_of_mem _ m1, e1, r1⟩
inductive RecD {β : Type} (Rb : Rp β) : {α : Type} → List Str → RA α → (α → List (Str × β)) → Prop where
  | nil : RecD Rb [] aNil fun _ => []
  | cons {α : Type} {x : Str} {ks : List Str} {S : RA α} {g : α → List (Str × β)} (h : RecD Rb ks S g) : RecD Rb (x :: ks) (aCons Rb S) fun a => (x, a.1) :: g a.2
theorem RecD.all {β : Type} {Rb : Rp β} {α : Type} {ks : List Str} {S : RA α} {g : α → List (Str × β)} (h : RecD Rb ks S g) {F : Hp} : ∀ {vs : List V} {a : α}, S.r F vs a → AllD Sum.inr (Rb.r F) (recK ks vs) (g a) := by
  induction h with
  | nil => intro vs a r; exact .nil
  | cons h ih =>
    intro vs a r
    obtain ⟨v, vs', rfl, r1, r2⟩ := r
    exact .cons r1 (ih r2)
end PF
namespace TX
open PySem PySem.Builtin PySem.Builtin.Str SX PF TL L2
theorem of_append (a b : String) : Str.ofString (a ++ b) = Str.ofString a ++ Str.ofString b := by
  rw [Str.ofString_eq_toList, Str.ofString_eq_toList, Str.ofString_eq_toList]
  show _ = Str.append _ _
  unfold Str.append
  simp
def nI (i : Int) : List Nat := if i < 0 then 45 :: numL i.natAbs else numL i.natAbs
theorem nI_nn {i : Int} (h : 0 ≤ i) : nI i = numL i.natAbs := if_neg (by omega)
theorem nI_neg {i : Int} (h : i < 0) : nI i = 45 :: numL i.natAbs := if_pos h
theorem s_int (i : Int) : Str.ofString (toString i) = S (nI i) := by
  by_cases h : i < 0
  · rw [nI_neg h, PyProof.Rows.toString_neg h, of_append, show (0 - i : Int) = ((i.natAbs : Nat) : Int) by omega, num_S, show Str.ofString "-" = S [45] by decide +kernel, S_cat]
    rfl
  · rw [nI_nn (by omega)]
    conv => lhs; rw [show i = ((i.natAbs : Nat) : Int) by omega]
    rw [num_S]
theorem nI_ne (i : Int) : nI i ≠ [] := by
  unfold nI
  split
  · exact List.cons_ne_nil _ _
  · exact numL_ne _
theorem nI_free {i : Int} {s : Nat} (h : s < 48 ∨ 57 < s) (h2 : s ≠ 45) : s ∉ nI i := by
  unfold nI
  split
  · exact fun m => (List.mem_cons.mp m).elim h2 (numL_free h)
  · exact numL_free h
theorem numL_free45 (n : Nat) : 45 ∉ numL n := numL_free (by omega)
theorem head_num (n : Nat) : (numL n).head? ≠ some 45 := fun h => numL_free45 n (List.mem_of_mem_head? h)
def sg (a : List Nat) : List Nat := if a.head? = some 45 then a.tail else a
def iv (a : List Nat) : Int := if a.head? = some 45 then -((NumText.digitsVal a.tail : Nat) : Int) else ((NumText.digitsVal a : Nat) : Int)
def dg (a : List Nat) : Bool := a.all fun c => decide (48 ≤ c) && decide (c ≤ 57)
theorem dg_num (n : Nat) : dg (numL n) = true := List.all_eq_true.mpr fun c hc => by
  have := numL_digits n c hc
  simp [this.1, this.2]
theorem sg_nI (i : Int) : sg (nI i) = numL i.natAbs := by
  unfold nI sg
  by_cases h : i < 0
  · rw [if_pos h]; rfl
  · rw [if_neg h, if_neg (head_num _)]
theorem iv_nI (i : Int) : iv (nI i) = i := by
  unfold nI iv
  by_cases h : i < 0
  · rw [if_pos h]
    rw [if_pos (show (45 :: numL i.natAbs).head? = some 45 from rfl), List.tail_cons, numL_val]; omega
  · rw [if_neg h, if_neg (head_num _), numL_val]; omega
theorem sg_len (a : List Nat) : (sg a).length ≤ a.length := by
  unfold sg
  split
  · rw [List.length_tail]; omega
  · exact Nat.le_refl _
theorem val_lt : ∀ (a : List Nat), dg a = true → NumText.digitsVal a < 10 ^ a.length := by
  have key : ∀ (a : List Nat) (k : Nat), dg a = true → a.foldl (fun acc c => acc * 10 + (c - 48)) k < (k + 1) * 10 ^ a.length := by
    intro a
    induction a with
    | nil => intro k _; simp
    | cons c a ih =>
      intro k h
      unfold dg at h
      rw [List.all_cons, Bool.and_eq_true] at h
      simp only [Bool.and_eq_true, decide_eq_true_eq] at h
      have q := ih (k * 10 + (c - 48)) h.2
      rw [List.foldl_cons, List.length_cons, Nat.pow_succ]
      have e : (k * 10 + (c - 48) + 1) * 10 ^ a.length ≤ ((k + 1) * 10) * 10 ^ a.length := Nat.mul_le_mul_right _ (by omega)
      calc _ < _ := q
        _ ≤ _ := e
        _ = _ := by rw [Nat.mul_assoc, Nat.mul_comm 10]
  intro a h
  have := key a 0 h
  rw [Nat.zero_add, Nat.one_mul] at this
  exact this
theorem iv_bd {a : List Nat} {k : Nat} (h : dg (sg a) = true) (hl : (sg a).length ≤ k) : (iv a).natAbs < 10 ^ k := by
  have p : (iv a).natAbs = NumText.digitsVal (sg a) := by
    unfold iv sg
    split <;> simp
  rw [p]
  exact Nat.lt_of_lt_of_le (val_lt _ h) (Nat.pow_le_pow_right (by decide) hl)
theorem pow10 (k : Nat) : 10 ^ k ≤ 2 ^ (4 * k) := by
  rw [Nat.pow_mul]
  exact Nat.pow_le_pow_left (by decide) k
theorem iv_bits {a : List Nat} {k m : Nat} (h : dg (sg a) = true) (hl : (sg a).length ≤ k) (hm : 4 * k ≤ m) : Bd m (iv a) :=
  Nat.lt_of_lt_of_le (iv_bd h hl) (Nat.le_trans (pow10 k) (Nat.pow_le_pow_right (by decide) hm))
theorem dg_all {a : List Nat} (h : dg a = true) : NumText.AllDigits a := fun c hc => by
  have := List.all_eq_true.mp h c hc
  simpa using this
theorem int_of {a : List Nat} (h : dg (sg a) = true) (ne : sg a ≠ []) (hl : a.length ≤ 4300) : intText? (S a) = some (iv a) := by
  unfold sg at h ne
  unfold iv
  by_cases c : a.head? = some 45
  · rw [if_pos c] at h ne ⊢
    cases a with
    | nil => cases c
    | cons x a =>
      obtain rfl : x = 45 := by simpa using c
      exact intText_neg rfl (dg_all h) ne (by rw [S_len]; exact hl)
  · rw [if_neg c] at h ne ⊢
    exact int_S h ne hl
theorem cutL (a : List Nat) (lo hi : Option Int) : cutS (S a) lo hi = S ((a.drop (HT.sIx a.length 0 lo)).take (HT.sIx a.length a.length hi - HT.sIx a.length 0 lo)) := by
  unfold cutS
  rw [S_len]
theorem cut_to {a : List Nat} (k : Nat) : cutS (S a) none (some (k : Int)) = S (a.take k) := by
  rw [cutL, HT.sIx_nat, HT.sIx_none]
  refine congrArg S ?_
  rw [List.drop_zero, Nat.sub_zero]
  by_cases h : k ≤ a.length
  · rw [Nat.min_eq_left h]
  · rw [Nat.min_eq_right (by omega), List.take_of_length_le (Nat.le_refl _), List.take_of_length_le (by omega)]
theorem cut_from {a : List Nat} (k : Nat) : cutS (S a) (some (k : Int)) none = S (a.drop k) := by
  rw [cutL, HT.sIx_nat, HT.sIx_none]
  refine congrArg S ?_
  by_cases h : k ≤ a.length
  · rw [Nat.min_eq_left h, List.take_of_length_le (by rw [List.length_drop]; exact Nat.le_refl _)]
  · rw [Nat.min_eq_right (by omega), List.drop_eq_nil_of_le (Nat.le_refl _), List.drop_eq_nil_of_le (by omega), List.take_nil]
theorem head_cut {a : List Nat} {c : Nat} : (cutS (S a) none (some 1) = S [c]) ↔ a.head? = some c := by
  rw [show (1 : Int) = ((1 : Nat) : Int) by rfl, cut_to]
  cases a with
  | nil => exact Iff.intro (fun h => by have z := S_inj h; simp at z) (fun h => by simp at h)
  | cons x a =>
    refine ⟨fun h => ?_, fun h => ?_⟩
    · have := S_inj h
      simpa using this
    · have : x = c := by simpa using h
      subst this
      rfl
theorem neg1 (n d : Nat) : HT.sIx n d (some (-1)) = n - 1 := by
  unfold HT.sIx
  simp only [show ((-1 : Int) < 0) = True by simp, if_true]
  omega
theorem last_cut {a : List Nat} {c : Nat} : (cutS (S a) (some (-1)) none = S [c]) ↔ a.getLast? = some c := by
  have e : cutS (S a) (some (-1)) none = S (a.drop (a.length - 1)) := by
    rw [cutL, HT.sIx_none, neg1]
    refine congrArg S ?_
    exact List.take_of_length_le (by rw [List.length_drop]; exact Nat.le_refl _)
  rw [e]
  rcases List.eq_nil_or_concat a with rfl | ⟨b, x, rfl⟩
  · exact Iff.intro (fun h => by have z := S_inj h; simp at z) (fun h => by simp at h)
  · have q : (b ++ [x]).drop ((b ++ [x]).length - 1) = [x] := by simp
    rw [List.concat_eq_append, q, List.getLast?_concat]
    refine ⟨fun h => ?_, fun h => ?_⟩
    · have := S_inj h
      simpa using this
    · have : x = c := by simpa using h
      subst this
      rfl
theorem inner_cut {c d : Nat} {m : List Nat} : cutS (S (c :: (m ++ [d]))) (some 1) (some (-1)) = S m := by
  rw [cutL, neg1, show (some (1 : Int)) = some ((1 : Nat) : Int) by rfl, HT.sIx_nat]
  refine congrArg S ?_
  rw [Nat.min_eq_left (by simp)]
  simp
theorem rfind_one (a : List Nat) (c : Nat) : (c ∉ a ∧ Txt.rfind (S a) (S [c]) = -1) ∨ ∃ u v, a = u ++ c :: v ∧ c ∉ v ∧ Txt.rfind (S a) (S [c]) = (u.length : Int) := by
  have at_ : ∀ i, PySem.StrLaws.At (S a) (S [c]) (S a).length i ↔ a[i]? = some c := fun i => PySem.StrLaws.subAt_one (S a) c i
  unfold Txt.rfind
  rcases PySem.StrLaws.last_spec (S a) (S [c]) with ⟨h1, h2⟩ | ⟨i, h1, h2, h3⟩
  · refine .inl ⟨fun m => ?_, by rw [h1]⟩
    obtain ⟨i, hi, e⟩ := List.mem_iff_getElem.mp m
    exact h2 i ((at_ i).mpr (by rw [List.getElem?_eq_getElem hi, e]))
  · have q := (at_ i).mp h2
    have hi := (List.getElem?_eq_some_iff.mp q).1
    refine .inr ⟨a.take i, a.drop (i + 1), ?_, fun m => ?_, ?_⟩
    · rw [← (List.getElem?_eq_some_iff.mp q).2, List.getElem_cons_drop, List.take_append_drop]
    · obtain ⟨j, hj, e⟩ := List.mem_iff_getElem.mp m
      rw [List.getElem_drop] at e
      rw [List.length_drop] at hj
      exact h3 (i + 1 + j) (by omega) ((at_ _).mpr (by rw [List.getElem?_eq_getElem (by omega), e]))
    · rw [h1]
      show (i : Int) = _
      rw [List.length_take, Nat.min_eq_left (by omega)]
end TX
namespace PF
open PySem PySem.Spec PyProof.Rows L2 SlX
end PF
namespace RZ3
open PySem PySem.Spec PyProof.Rows L2
end RZ3
namespace PF
open PySem PySem.Spec PyProof.Rows L2 SlX
section
variable {Γ α β γ : Type} {E : EV Γ} {Ra : Rp α} {Rb : Rp β} {K : PySem.W.Frag}
theorem o_ixS {μ : Md} : OpS μ rIxS rStr rInt rStr fun z i => .need (z.length ≤ sizeLine) (.bind (.the (atI z.cps.toList i)) fun c => .ret (⟨#[c]⟩ : Str)) := fun k F H c x y z i Q w hx hy ⟨hl, n, hn, q⟩ => by
  have hx : x = .str z := hx
  have hy : y = .int i := hy
  subst hx hy
  exact ⟨z, i, n, rfl, rfl, hl, hn, VP.now w q rfl⟩
end
def rLx {α : Type} (S : RA α) : Rp α := ⟨fun F v a => ∃ p vs, v = .ref p ∧ F p = some (.lst vs) ∧ S.r F vs a, fun s ⟨p, vs, e, h, t⟩ => ⟨p, vs, e, s _ _ h, S.st s t⟩⟩
def lx0 {β : Type} (xs : List β) : Option Unit := if xs.isEmpty then some () else none
def lxS {β α : Type} (g : List β → Option α) : List β → Option (β × α)
  | [] => none
  | x :: xs => (g xs).map fun a => (x, a)
inductive LxD {β : Type} (Rb : Rp β) : {α : Type} → RA α → (List β → Option α) → Prop where
  | nil : LxD Rb aNil lx0
  | cons {α : Type} {S : RA α} {g : List β → Option α} (h : LxD Rb S g) : LxD Rb (aCons Rb S) (lxS g)
theorem LxD.all {β : Type} {Rb : Rp β} {α : Type} {S : RA α} {g : List β → Option α} (h : LxD Rb S g) {F : Hp} : ∀ {vs : List V} {xs : List β} {a : α}, All2 (Rb.r F) vs xs → g xs = some a → S.r F vs a := by
  induction h with
  | nil =>
    intro vs xs a al e
    cases al with
    | nil => rfl
    | cons _ _ => simp [lx0] at e
  | cons h ih =>
    intro vs xs a al e
    cases al with
    | nil => cases e
    | cons r t =>
      obtain ⟨b, eb, ea⟩ := Option.map_eq_some_iff.mp e
      subst ea
      exact ⟨_, _, rfl, r, ih t eb⟩
section
variable {Γ Γ' α β : Type} {μ : Md} {E : EV Γ} {E' : EV Γ'} {Rb : Rp β}
theorem e_lx {S : RA α} {g : List β → Option α} {t : TE} {m : Γ → M (List β)} (hd : LxD Rb S g) (h : SE μ E (rLs Rb) t m) : SE μ E (rLx S) t fun ρ => (m ρ).bind fun xs => .the (g xs) := fun k F H σ ρ c Q w e q =>
  h k F H σ ρ c _ w e (wp_imp q fun xs c1 ⟨a, ea, q⟩ v F1 H1 x1 w1 ⟨p, vs, ev, hp, al⟩ => q v F1 H1 x1 w1 ⟨p, vs, ev, hp, hd.all al ea⟩)
theorem g_lst {K : PySem.W.Frag} {S : RA α} {n : Nat} {gs : TGs} {put : Γ → α → Γ'} (h : SGs E S gs E' put) (hn : S.n = n) : SG E (rLx S) (gLst K n gs) E' put := fun k F H σ ρ c v a Q w e ⟨p, vs, ev, hp, r⟩ q =>
  ⟨p, vs, ev, .of (w.sub _ _ hp), (S.len r).trans hn, h k F H σ ρ c vs a Q w e r q⟩
end
structure ModR {Γ α : Type} (E : EV Γ) (i : Nat) (ks : List Str) (S : RA α) (g : Γ → α) (put : Γ → α → Γ) : Prop where
  get : ∀ {p : Option Addr} {H0 F H : Hp} {σ : L2.St} {ρ : Γ}, E.r p H0 F H σ ρ → ∃ D vs, σ[i]? = some (some (.ref D)) ∧ H D = some (.dK (recK ks vs)) ∧ S.r F vs (g ρ) ∧ D ∈ E.owns σ
  mod : ∀ {p : Option Addr} {H0 F H : Hp} {σ : L2.St} {ρ : Γ} {D : Addr} {vs : List V} {a : α}, E.r p H0 F H σ ρ → (E.owns σ).Nodup → σ[i]? = some (some (.ref D)) → S.r F vs a → E.r p H0 F (upd H D (.dK (recK ks vs))) σ (put ρ a)
structure RSet {α β : Type} (S : RA α) (j : Nat) (R : Rp β) (st : α → β → α) : Prop where
  set : ∀ {F : Hp} {vs : List V} {a : α} {v : V} {b : β}, S.r F vs a → R.r F v b → S.r F (vs.set j v) (st a b)
structure FzR {Γ Γ' α : Type} (E : EV Γ) (i : Nat) (ks : List Str) (S : RA α) (E' : EV Γ') (f : Γ → Γ') : Prop where
  get : ∀ {p : Option Addr} {H0 F H : Hp} {σ : L2.St} {ρ : Γ}, E.r p H0 F H σ ρ → ∃ D vs, σ[i]? = some (some (.ref D)) ∧ H D = some (.dK (recK ks vs)) ∧ F D = none ∧ H0 D = none ∧ D ∈ E.owns σ
  put : ∀ {p : Option Addr} {H0 F H : Hp} {σ : L2.St} {ρ : Γ} {D : Addr} {vs : List V} {o : Obj}, E.r p H0 F H σ ρ → (E.owns σ).Nodup → σ[i]? = some (some (.ref D)) → H D = some (.dK (recK ks vs)) → Same F (upd F D (.frz o (.dK (recK ks vs)))) → E'.r p H0 (upd F D (.frz o (.dK (recK ks vs)))) (upd H D (.frz o (.dK (recK ks vs)))) σ (f ρ)
  ow : ∀ σ, (E'.owns σ).Sublist (E.owns σ)
end PF
namespace PySem.W
open PySem PySem.Calls PyProof.Rows PyProof.V PySem.Spec
end PySem.W
namespace PF
open PySem PySem.Spec PyProof.Rows L2 SlX
end PF
set_option maxHeartbeats 400000
namespace PF
open PySem PySem.Spec PyProof.Rows L2 SlX
def kD : Key → PyData
  | .inl i => .int i
  | .inr x => .str x
def AtV (v : V) (d : PyData) : Prop := (v = .non ∧ d = .none) ∨ (∃ b, v = .bl b ∧ d = .bool b) ∨ (∃ i, v = .int i ∧ d = .int i) ∨ (∃ x, v = .str x ∧ d = .str x)
theorem AtV.reads {h : Heap} {v : V} {d : PyData} {u : Value} (a : AtV v d) (r : RelV v u) : Reads h u d [] := by
  rcases a with ⟨rfl, rfl⟩ | ⟨b, rfl, rfl⟩ | ⟨i, rfl, rfl⟩ | ⟨x, rfl, rfl⟩
  · obtain rfl : u = Value.none := r
    exact .none
  · obtain rfl : u = Value.bool b := r
    exact .bool b
  · obtain ⟨t, rfl⟩ : ∃ t, u = Value.int i t := r
    exact .int i t
  · obtain ⟨t, rfl⟩ : ∃ t, u = Value.str x t := r
    exact .str x t
section
variable {μ : Md} {K : PySem.W.Frag} {α κ : Type} {Ra : Rp α}
structure AtR (R : Rp α) (d : α → PyData) : Prop where
  at_ : ∀ {F : Hp} {v : V} {a : α}, R.r F v a → AtV v (d a)
end
end PF
set_option maxHeartbeats 1000000
namespace GQ
open PySem PySem.SeqAt
open AutoSeq1 (wpAny_loadPart')
open MeetsSeq MeetsSeq2 MeetsSeq3 SeqRoads2
end GQ
namespace PF
open PySem PySem.Spec PyProof.Rows L2 SlX
end PF
set_option maxHeartbeats 4000000
namespace PF
open PySem PySem.Spec PyProof.Rows L2 SlX
namespace M
variable {α β : Type}
def safe (m : M α) : M α := ⟨fun c Q _ => m.wp c Q fun _ => False, fun c _ _ _ _ h _ k => m.mono c h (fun _ z => z) k⟩
def tryM (m : M α) (h : Er → M α) : M α := ⟨fun c Q X => m.wp c Q fun e => (h e).wp c Q X, fun c _ _ _ _ f g k => m.mono c f (fun e z => (h e).mono c f g z) k⟩
def byE (ys ns : List Str) (m : M α) (n : Er → M α) (e : Er) : M α := ⟨fun c Q X => (e.cls ∈ ys ∧ m.wp c Q X) ∨ (e.cls ∈ ns ∧ (n e).wp c Q X), fun c _ _ _ _ f g k => k.imp (fun z => ⟨z.1, m.mono c f g z.2⟩) fun z => ⟨z.1, (n e).mono c f g z.2⟩⟩
end M
structure GX (K : PySem.W.Frag) (mg : Str → Option Value) (x : Str) (C : Addr) : Prop where
  ex : PySem.W.excIn K C [.type "ValueError", .type "Exception", .type "BaseException", .type "object"] "ValueError.__new__" = true
  gl : mg x = some (.ref C)
  kp : PySem.W.keepIn K (.ref C) = true
  sb : PySem.W.subIn K (.ref C) (.type "BaseException") = some true
  ty : PySem.W.typeIn K (.ref C) = some (.type "type")
structure GR (P : Program) (w : World) (K : PySem.W.Frag) (mg : Str → Option Value) (base : Heap) (x : Str) (k : Nat) (sp : Sp) : Prop where
  ex : ∃ f fd ps, mg x = some (.ref f) ∧ PySem.W.keepIn K (.ref f) = true ∧ Binds K fd ps [] ∧ FnOk P w K mg base (L2.CX P w) k f fd ps sp
section
variable {Γ Γ' Γ'' Δ Δ' α β γ δ : Type} {μ : Md} {E : EV Γ} {E' : EV Γ'} {E'' : EV Γ''} {El : EV Δ} {El' : EV Δ'} {Ra : Rp α} {Rb : Rp β} {R : Rp γ} {mg : Str → Option Value} {XE : XK}
theorem se_safe {te : TE} {m : Γ → M α} (h : SE md0 E Ra te m) : SE μ E Ra te fun ρ => (m ρ).safe := fun k F H σ ρ c Q w e q => h k F H σ ρ c Q w e ((m ρ).mono c (fun _ _ z => z) (fun _ z => z.elim) q)
theorem st_safe {tt : TT} {m : Γ → M Bool} (h : ST md0 E tt m) : ST μ E tt fun ρ => (m ρ).safe := fun k F H σ ρ c Q w e q => h k F H σ ρ c Q w e ((m ρ).mono c (fun _ _ z => z) (fun _ z => z.elim) q)
theorem sa_safe {S : RA α} {ta : TA} {m : Γ → M α} (h : SA md0 E S ta m) : SA μ E S ta fun ρ => (m ρ).safe := fun k F H σ ρ c Q w e q => h k F H σ ρ c Q w e ((m ρ).mono c (fun _ _ z => z) (fun _ z => z.elim) q)
theorem ss_safe {ts : TS} {m : Γ → M (Ct Γ' Δ γ)} (h : SS md0 E E' El R ts m) : SS μ E E' El R ts fun ρ => (m ρ).safe := fun k F H σ ρ c D w e q => h k F H σ ρ c D w e ((m ρ).mono c (fun _ _ z => z) (fun _ z => z.elim) q)
def SB (mg : Str → Option Value) (E : EV Γ) (E' : EV Γ') (El : EV Δ) (R : Rp β) (ts : WX → TS) (m : Γ → M (Ct Γ' Δ β)) : Prop :=
  ∀ (k : Cn) (F H : Hp) (σ : L2.St) (ρ : Γ) (c : Nat) (D : Ends) (W : WX), Wo k F H c → EI k E F H σ ρ → (m ρ).wp c (SP k F E' El R D) (fun e => ∀ cls F' H', ExtX none F H F' H' → mg e.cls = some cls → W cls none σ H') → ts W D σ H
def eAt (E : EV Γ) (σ0 : L2.St) : EV Γ := ⟨fun p H0 F H σ ρ => E.r p H0 F H σ ρ ∧ σ = σ0, E.owns, fun x h => ⟨E.step x h.1, h.2⟩, fun c w h => ⟨E.upd c w h.1, h.2⟩, fun s c w h => ⟨E.fz s c w h.1, h.2⟩, fun h c => E.has h.1 c⟩
theorem gAt {S : SR α} {i : Nat} {g : Γ → α} {σ0 : L2.St} (h : GetS E i S g) : GetS (eAt E σ0) i S g := ⟨fun r => h.get r.1⟩
theorem wAt {W : WX} {σ0 : L2.St} : ∀ {p : Option Addr} {H0 F H : Hp} {σ : L2.St} {ρ : Γ}, (eAt E σ0).r p H0 F H σ ρ → WE W σ = WE W σ0 := fun h => by rw [h.2]
structure PlX (E : EV Γ) (E' : EV Γ') (f : Γ → Γ') : Prop where
  r : ∀ {p : Option Addr} {H0 F H : Hp} {σ : L2.St} {ρ : Γ}, E.r p H0 F H σ ρ → E'.r none H F H σ (f ρ)
  ow : ∀ σ, E'.owns σ = []
theorem plx_nil : PlX eNil eNil id := ⟨id, fun _ => rfl⟩
theorem plx_val {f : Γ → Γ'} (h : PlX E E' f) : PlX (eCons (sVal Ra) E) (eCons (sVal Ra) E') fun ρ => (ρ.1, f ρ.2) := ⟨fun ⟨o, τ, e, r, t⟩ => ⟨o, τ, e, r, h.r t⟩, fun σ => by
  cases σ with
  | nil => rfl
  | cons o τ => exact h.ow τ⟩
theorem plx_un {S : SR α} {f : Γ → Γ'} (h : PlX E E' f) : PlX (eCons S E) (eCons sUn E') fun ρ => ((), f ρ.2) := ⟨fun ⟨o, τ, e, r, t⟩ => ⟨o, τ, e, trivial, h.r t⟩, fun σ => by
  cases σ with
  | nil => rfl
  | cons o τ => exact h.ow τ⟩
inductive Exm (mg : Str → Option Value) (K : PySem.W.Frag) (D : Value) (b : Bool) : List Str → Prop
  | nil : Exm mg K D b []
  | cons {x : Str} {C : Addr} {xs : List Str} (g : mg x = some (.ref C)) (h : PySem.W.exmOne K (.ref C) D = some b) (t : Exm mg K D b xs) : Exm mg K D b (x :: xs)
theorem Exm.at {K : PySem.W.Frag} {D : Value} {b : Bool} {xs : List Str} (h : Exm mg K D b xs) {x : Str} (i : x ∈ xs) {cls : Value} (g : mg x = some cls) : PySem.W.exmOne K cls D = some b := by
  induction h with
  | nil => cases i
  | cons g' h' _ ih =>
    rcases List.mem_cons.mp i with rfl | i
    · rw [g'] at g; cases g; exact h'
    · exact ih i
end
end PF
namespace PEI
open PySem PySem.W PySem.Calls PyProof.Rows
structure TailB (B newId i : String) (bm : List Value) : Prop where
  exc : ExcBaseFacts B newId i bm
  kx : KxsFacts B i
  st : StoreFacts B bm "object.__setattr__" "object"
  along : ∀ K : Frag, alongIn K "__init__" bm = some (some (.builtin i))
abbrev tlV : List Value := [.type "ValueError", .type "Exception", .type "BaseException", .type "object"]
theorem tb_value : TailB "ValueError" "ValueError.__new__" "ValueError.__init__" tlV := ⟨PySem.F.excBase_ValueError, kxs_ValueError, PySem.F.store_ValueError, fun K => by kernel_rfl⟩
section
open Builtin Builtin.ObjectAttr
variable {prog : Program} {w : World} {A : Around} {E : Value → Shared → Prop} {R : Result → Shared → Prop} {hp : Heap} {g : Array GenState} {d : Drawn} {t : Nat} {os : OsState} {B newId i : String} {bm : List Value}
theorem osa_new (T : TailB B newId i bm) {K : Frag} {name : Str} {tk : Tok} {v : Value} {x C : Addr} {fv : Array Value} {cd : ClassData}
    (X : K.In hp) (hx : hp.get? x = some { cls := .ref C, data := .fields fv }) (hcd : clsIn K C = some cd) (over : excOver K C bm = true) (hh : cd.hasDict = true) (ha : findIn K (.ref C) name = some none)
    (hq : ∀ h2 tk2 dx, (∀ b o, b ≠ x → hp.get? b = some o → h2.get? b = some o) → hp.objs.size ≤ dx → dx ≠ x → h2.get? x = some { cls := .ref C, dict := some dx, data := .fields fv } →
      h2.Ns1 dx (fun y => if y = name then some v else none) → R (.ok (.ret .none)) ⟨h2, g, d, tk2, os⟩) :
    codeAny (model prog w) A (.call (.builtin "object.__setattr__") ⟨[.ref x, .str name tk, v], []⟩) R ⟨hp, g, d, t, os⟩ := by
  have taker : takerIn K C name = some none := by unfold takerIn; rw [ha]; rfl
  refine osa_openX (od := none) (ox := { cls := .ref C, data := .fields fv }) T.st X ⟨hx, rfl, rfl, trivial⟩ over taker fun fresh => ?_
  have lx : x < hp.objs.size := Heap.lt_size hx
  have L : Looks (model prog w) hp (classData C) cd := looks_clsIn X hcd
  have hx1 : (hp.push { cls := .type "dict", data := .dict #[] }).get? x = some { cls := .ref C, data := .fields fv } := Heap.get?_push_of_some _ hx
  cases cd
  cases hh
  dsimp only
  unfold storeInOwnDict ownDictForStores
  repeat (first | with_reducible refine L.at ?_ | with_reducible refine HandSPX.store_in_new ?_ ?_ | with_reducible refine wpAny_loadPart_at hx ?_ | wp_step)
  · exact ⟨_, #[], _, (Heap.get?_update_ne _ _ _ _ (Nat.ne_of_gt lx)).trans (Heap.get?_push_at rfl rfl), rfl, (fun e he => absurd he (by simp)), fun _ => rfl⟩
  · intro h2 tk2 hn keep
    refine hq h2 tk2 hp.objs.size (fun b o hb ho => ?_) (Nat.le_refl _) (Nat.ne_of_gt lx) ((keep.2 x (Nat.ne_of_lt lx)).trans (Heap.get?_update_self _ hx1 rfl)) hn
    rw [keep.2 b (Nat.ne_of_lt (Heap.lt_size ho)), Heap.get?_update_ne _ _ _ _ hb]
    exact Heap.get?_push_of_some _ ho
end
structure InitC (P : Program) (K : Frag) (C fI cc cda : Addr) (newId i : String) (bm : List Value) (qual vn fld : Str) (params : Arguments) (body : List Stmt) (scope : Scope) (kV doc pm ct : Value) (an : Option Addr) : Prop where
  cls : ∃ bo nm q N bs sn sub ab col dd k0 k1 k2 k3 k5, K.lookup C = some (excClassObj nm q C N bs bo true sn sub ab col dd k0 k1 k2 k3 k5 newId) ∧ (∀ X : String, bo.contains (.type X) = bm.contains (.type X)) ∧ alongIn K "__init__" bo = some (some (.builtin i))
  fn : ∃ oc od osl, K.lookup fI = some ⟨oc, od, .func (ksFn "__init__" qual params body scope .none kV doc pm an (.ref cda) ct cc), osl⟩
  code : codeIn K (.ref cda) qual = true
  cell : ∃ cl cld csl, K.lookup cc = some ⟨cl, cld, .cell (some (.ref C)), csl⟩
  file : ∃ ccl cdd vs ccs tf, K.lookup cda = some ⟨ccl, cdd, .fields vs, ccs⟩ ∧ vs[2]? = some (.str P.main.file tf)
  top : (P.main.scope.names.lookup ("super" : Str)).isSome = false
  st : nsIn K cStatics "thirdparty.any" = some none
  sa : findIn K (.ref C) "__setattr__" = some (some (.builtin "object.__setattr__"))
  nofld : findIn K (.ref C) fld = some none
  over : excOver K C bm = true
section
variable {prog : Program} {w : World} {A : Around} {E : Value → Shared → Prop} {s : Shared} {K : Frag} {mg : Str → Option Value} {base : Heap} {C fI cc cda x t0 L : Addr} {B newId i : String} {bm : List Value} {qual vn fld msg : Str} {params : Arguments} {body : List Stmt} {scope : Scope} {kV doc pm ct v : Value} {an : Option Addr} {m : Str → Option Value} {p0 p1 p2 p3 : Pos} {j : Nat}
theorem super_init (T : TailB B newId i bm) (IC : InitC prog K C fI cc cda newId i bm qual vn fld params body scope kV doc pm ct an) (md : L2.Mod K mg base) (bk : ∀ b o, base.get? b = some o → s.heap.get? b = some o) (hsup : mg "super" = none)
    (hks : scope.names.lookup ("super" : Str) = some .globalImplicit) (hkc : scope.names.lookup ("__class__" : Str) = some .free) (hka : scope.names.lookup ("self" : Str) = some .local) (hk : scope.kind = .function)
    (hp : (params.posonlyargs ++ params.args).head?.map (·.arg) = some "self") (hns : s.heap.Ns L m) (hself : m "self" = some (.ref x)) (hx : s.heap.get? x = some (HandSPX.excO C t0)) {Q : Value → Shared → Prop} {pc : Pos} {pl : Sem Bool}
    (he : eval (.Call (.Attribute (.Call (.Name "super" p0) [] [] p1) "__init__" p2) [.Constant (.str msg) j pc] [] p3) (ksEnv qual scope L fI (.ref cda) cc) = (do
      let ov ← attributeBase (.Call (.Name "super" p0) [] [] p1) "__init__" (ksEnv qual scope L fI (.ref cda) cc) (eval (.Call (.Name "super" p0) [] [] p1) (ksEnv qual scope L fI (.ref cda) cc))
      standAt p2.atName
      let (f, first) ← holding [ov] (getMethod ov "__init__" pl)
      callWith p3 f first (backTo p3 (starEach [.Constant (.str msg) j pc] (ksEnv qual scope L fI (.ref cda) cc))) []))
    (hq : ∀ h' t1 tk, (∀ b o, b ≠ x → s.heap.get? b = some o → h'.get? b = some o) → h'.get? x = some (HandSPX.excO C t1) → Q .none { s with heap := h', toks := tk }) :
    _root_.PySem.wpAt (model prog w) A (.func body (ksEnv qual scope L fI (.ref cda) cc)) (eval (.Call (.Attribute (.Call (.Name "super" p0) [] [] p1) "__init__" p2) [.Constant (.str msg) j pc] [] p3) (ksEnv qual scope L fI (.ref cda) cc)) Q E s := by
  obtain ⟨bo, nm, q, N, bs, sn, sub, ab, col, dd, k0, k1, k2, k3, k5, hC, hbo, hal⟩ := IC.cls
  obtain ⟨oc, od, osl, hf⟩ := IC.fn
  obtain ⟨cl, cld, csl, hcell⟩ := IC.cell
  obtain ⟨ccl, cdd, vs, ccs, tf, hcode, hvs⟩ := IC.file
  have X : K.In s.heap := md.kin.keeps bk
  obtain ⟨mb, hb1, hb2⟩ := md.blt
  obtain ⟨hh, g, d, t, os⟩ := s
  have hC' := X _ _ hC
  obtain ⟨ar, har, harn⟩ : ∃ ar, (params.posonlyargs ++ params.args).head? = some ar ∧ ar.arg = "self" := by
    cases e : (params.posonlyargs ++ params.args).head? with
    | none => rw [e] at hp; cases hp
    | some ar => rw [e] at hp; exact ⟨ar, rfl, Option.some.inj hp⟩
  refine ks_wpAt_MethodCall (pl := pl) ?_ he
  refine ks_wpAt_super_base (env := ksEnv qual scope L fI (.ref cda) cc) hks hkc (by decide) rfl (X _ _ hf) rfl har rfl (X _ _ hcode) rfl hvs (by simp) IC.top ?_
  refine ks_loadName_global hk hks (loadGlobal_builtin (env := ksEnv qual scope L fI (.ref cda) cc) (md.glob.keeps bk) hsup (hb1.keeps bk) ((hb2 _ (by decide)).trans (show bootBuiltins "super" = some (.type "super") by kernel_rfl)) ⟨rfl, ?_⟩)
  refine wpAny_loadName_free hk hkc rfl ⟨_, X _ _ hcell, rfl⟩ ?_
  rw [harn]
  refine wpAny_loadName_local hk hka hns hself ?_
  refine ks_wpAny_isType_cls hC' rfl ⟨rfl, ?_⟩
  have hcl : clsIn K C = some { name := nm, bases := bs, mro := .ref C :: bo, ns := N, qualname := q, hasDict := true, slotNames := sn, subclasses := sub, abstract := ab, collection := col, hasDel := false } := by unfold clsIn; rw [hC] <;> rfl
  have I : InstAt hh x (HandSPX.excO C t0) C none := ⟨hx, rfl, rfl, trivial⟩
  have mroI : ∀ b : Value, (Value.ref C :: bo).contains b = true → mroIn K C b = some true := fun b hb => by
    unfold mroIn
    rw [hcl, Option.bind_some, if_neg (show ¬ (List.isEmpty (Value.ref C :: bo) = true) from Bool.false_ne_true), hb]
  have hxC : x ≠ C := ks_ne X I hcl
  refine ks_wpAny_call_super hC' rfl hx rfl (fun c e => by cases e) (looks_mroIn X (mroI (.ref C) (by simp))) (fun h1 hso k1 => ?_)
  have X1 : K.In h1 := X.keeps k1
  refine kxs_getMethod T.kx hso (looks_opaque X1 IC.st) (l₀ := .ref C :: bo) (l := bo) ((looks_clsIn X1 hcl).andThen .now) (by simp) X1 hal ((InstAt.type (M := model prog w) (show InstAt h1 x (HandSPX.excO C t0) C none from ⟨k1 _ _ hx, rfl, rfl, trivial⟩)).andThen (looks_mroIn X1 (mroI (.type B) (by rw [List.contains_cons, hbo, T.exc.hasB, Bool.or_true])))) hxC (by decide) ?_
  refine kxs_callWith (i := i) (x := x) (by rfl) (evalArgs_plain (Calls.spliced_cons ?_))
  show wpAny _ _ (eval (.Constant (.str msg) j pc) (ksEnv qual scope L fI (.ref cda) cc)) _ _ _
  refine wpAny_Constant_str ?_
  refine Calls.spliced_nil ⟨Heap.get?_push_at rfl rfl, ?_⟩
  dsimp only [List.append_nil, List.nil_append]
  have hu : (h1.push (kxs_mw i x)).get? h1.objs.size = some (kxs_mw i x) := Heap.get?_push_at rfl rfl
  have kp : ∀ b o, hh.get? b = some o → (h1.push (kxs_mw i x)).get? b = some o := fun b o e => Heap.get?_push_of_some _ (k1 b o e)
  have he2 := kp _ _ hx
  have hC2 := kp _ _ hC'
  refine wpAny_call (codeAny_of_tree ?_)
  show wpAny _ A.in1 (callAny (.ref h1.objs.size) ⟨[.str msg (t + 1)], []⟩) _ _ _
  simp only [callAny]
  refine wpAny_bind (wpAny_load hu ?_)
  simp only [kxs_mw, show (Value.type "method-wrapper" == Value.type "method" || Value.type "method-wrapper" == Value.type "builtin_function_or_method" || Value.type "method-wrapper" == Value.type "method-wrapper") = true by decide, if_true]
  refine KFB.if_so (by decide) ?_
  refine wpAny_bind (check_bound_init T.exc.toExcCallFacts hC2 he2 rfl ?_)
  refine wpAny_bind (wpAny_pure (wpAny_pure ?_))
  refine ⟨plainId_quiet T.exc.init.plain _, codeAny_builtin T.exc.initEntry ?_⟩
  refine exc_init_tree (cls := .ref C) (t0 := t0) (dv := none) (c2 := .none) (c3 := .none) (b4 := .bool false) he2 (by show 1 ≤ sizeLine; rw [sizeLine_eq]; decide) fun h' k' e' t' => ?_
  exact hq h' _ _ (fun b o hb e => k' b o hb (kp b o e)) e'
theorem init_code (T : TailB B newId i bm) {pe p5 p6 p7 p8 pc : Pos} {pl : Sem Bool} {call : Expr} (ecall : call = .Call (.Attribute (.Call (.Name "super" p0) [] [] p1) "__init__" p2) [.Constant (.str msg) j pc] [] p3)
    (ebody : body = [.Expr call pe, .Assign [.Attribute (.Name "self" p5) fld p6] (.Name vn p7) p8])
    (IC : InitC prog K C fI cc cda newId i bm qual vn fld params body scope kV doc pm ct an) (md : L2.Mod K mg base) (bk : ∀ b o, base.get? b = some o → s.heap.get? b = some o) (hsup : mg "super" = none) (hroom : A.depth < recursionLimit)
    (hks : scope.names.lookup ("super" : Str) = some .globalImplicit) (hkc : scope.names.lookup ("__class__" : Str) = some .free) (hka : scope.names.lookup ("self" : Str) = some .local) (hkv : scope.names.lookup vn = some .local) (hk : scope.kind = .function)
    (hncell : ∀ x ∈ scope.names, x.2 ≠ .cell) (hco : scope.isCoroutine = false) (hgen : scope.isGenerator = false) (hvs : vn ≠ "self") (hvd : (vn == ("__debug__" : Str)) = false)
    (hp : (params.posonlyargs ++ params.args).head?.map (·.arg) = some ("self" : Str)) {args : Args} (hbind : BindsTo s (ksFn "__init__" qual params body scope .none kV doc pm an (.ref cda) ct cc) args [("self", .ref x), (vn, v)])
    (hx : s.heap.get? x = some (HandSPX.excO C t0)) (hxb : base.get? x = none) {R : Result → Shared → Prop}
    (he : ∀ L, eval call (ksEnv qual scope L fI (.ref cda) cc) = (do
      let ov ← attributeBase (.Call (.Name "super" p0) [] [] p1) "__init__" (ksEnv qual scope L fI (.ref cda) cc) (eval (.Call (.Name "super" p0) [] [] p1) (ksEnv qual scope L fI (.ref cda) cc))
      standAt p2.atName
      let (f, first) ← holding [ov] (getMethod ov "__init__" pl)
      callWith p3 f first (backTo p3 (starEach [.Constant (.str msg) j pc] (ksEnv qual scope L fI (.ref cda) cc))) []))
    (hint : ∀ L, interactive (ksEnv qual scope L fI (.ref cda) cc) = false) (hsw : ∀ L, swapsWith call none pe.line (ksEnv qual scope L fI (.ref cda) cc) = pure false)
    (hsw2 : ∀ L, swapsWith (.Name vn p7) (some (.Attribute (.Name "self" p5) fld p6)) p8.line (ksEnv qual scope L fI (.ref cda) cc) = pure false)
    (hq : ∀ h' t1 tk dx, (∀ b o, b ≠ x → s.heap.get? b = some o → h'.get? b = some o) → s.heap.objs.size ≤ dx → dx ≠ x → h'.get? x = some { cls := .ref C, dict := some dx, data := .fields #[.ref t1, .none, .none, .none, .bool false, .none] } →
      h'.Ns1 dx (fun y => if y = fld then some v else none) → R (.ok (.ret .none)) { s with heap := h', toks := tk }) :
    codeAny (model prog w) A (.call (.ref fI) args) R s := by
  obtain ⟨oc, od, osl, hf⟩ := IC.fn
  have X : K.In s.heap := md.kin.keeps bk
  have lim : s.heap.NoLimit := md.nolimit.keeps bk
  refine ks_codeAny_call_defAt (fd := ksFn "__init__" qual params body scope .none kV doc pm an (.ref cda) ct cc) (body := body) (binds := [("self", .ref x), (vn, v)]) hroom (X _ _ hf) rfl lim (codeRec_of X IC.code) rfl hbind hncell (fun y hy => ?_) (fun h0 hns hk0 => ?_) hco hgen hk
  · simp only [List.mem_cons, List.not_mem_nil, or_false] at hy
    rcases hy with rfl | rfl
    · exact hka
    · exact hkv
  have hxL : x < s.heap.objs.size := Heap.lt_size hx
  show _root_.PySem.wpAt (model prog w) (A.deeper (ksEnv qual scope s.heap.objs.size fI (.ref cda) cc)) (.func body (ksEnv qual scope s.heap.objs.size fI (.ref cda) cc)) (execs body (ksEnv qual scope s.heap.objs.size fI (.ref cda) cc)) _ _ _
  generalize hL : s.heap.objs.size = L at *
  have hself : ([((vn : Str), v), (("self" : Str), Value.ref x)] : List (Str × Value)).lookup ("self" : Str) = some (.ref x) := by
    have : (("self" : Str) == vn) = false := by simpa using fun e : ("self" : Str) = vn => hvs e.symm
    simp [List.lookup, this]
  have hval : ([((vn : Str), v), (("self" : Str), Value.ref x)] : List (Str × Value)).lookup vn = some v := by simp [List.lookup]
  have eb := ebody
  rw [show execs body (ksEnv qual scope L fI (.ref cda) cc) = execs [.Expr call pe, .Assign [.Attribute (.Name "self" p5) fld p6] (.Name vn p7) p8] (ksEnv qual scope L fI (.ref cda) cc) from by rw [eb]]
  refine ks_wpAt_execs_cons (ks_wpAt_Expr_any ?_ (hint L) (hsw L))
  subst ecall
  refine super_init (s := { s with heap := h0, toks := s.toks + ([(("self" : Str), Value.ref x), (vn, v)] : List (Str × Value)).length }) T IC md (fun b o e => hk0 b o (bk b o e)) hsup hks hkc hka hk hp hns hself (hk0 _ _ hx) (he L) fun h1 t1 tk k1 hx1 => ?_
  have xL : L ≠ x := Nat.ne_of_gt hxL
  have hns1 : h1.Ns L (fun y => ([((vn : Str), v), (("self" : Str), Value.ref x)] : List (Str × Value)).lookup y) := by
    obtain ⟨oL, es, ep, hL', r⟩ := hns
    exact ⟨oL, es, ep, k1 _ _ xL hL', r⟩
  have X1 : K.In h1 := md.kin.keeps fun b o e => k1 b o (fun z => by rw [z, hxb] at e; cases e) (hk0 b o (bk b o e))
  obtain ⟨bo, nm, q, N, bs, sn, sub, ab, col, dd, k0, k1', k2, k3, k5, hC, hbo, hal⟩ := IC.cls
  have hcl : clsIn K C = some { name := nm, bases := bs, mro := .ref C :: bo, ns := N, qualname := q, hasDict := true, slotNames := sn, subclasses := sub, abstract := ab, collection := col, hasDel := false } := by unfold clsIn; rw [hC] <;> rfl
  refine ks_wpAt_execs_cons (ks_wpAt_Assign_Attr (_root_.PySem.wpAt_of_wpAny (wpAny_Name (wpAny_loadName_local hk hkv hns1 hval ?_) hvd)) (hsw2 L))
  refine wpAny_Name (wpAny_loadName_local hk hka hns1 hself ?_) (by decide)
  refine set_plain X1 (ox := HandSPX.excO C t1) (od := none) ⟨hx1, rfl, rfl, trivial⟩ IC.sa ?_
  refine osa_new T X1 hx1 hcl IC.over rfl IC.nofld fun h2 tk2 dx k2 dn dne hx2 hn2 => ?_
  refine _root_.PySem.wpAt_of_wpAny (wpAny_execs_nil ?_)
  have key := hq h2 t1 tk2 dx (fun b o hb e => k2 b o hb (k1 b o hb (hk0 b o e))) ?_ dne hx2 hn2
  · exact key
  · obtain ⟨oL, es, ep, hL', r⟩ := hns1
    exact Nat.le_trans (Nat.le_of_lt (Heap.lt_size hL')) dn
end
end PEI
namespace L2
open PySem PySem.Spec PyProof.Rows
section
variable {P : Program} {w : World} {H : Hp} {hp h' : Heap} {a C dx : Addr} {f : Str} {y : V} {u : Value}
theorem fld_un (hok : HOk P w H hp) (e : H a = some (exo a C none)) (k : ∀ b o, b ≠ a → hp.get? b = some o → h'.get? b = some o) (dn : hp.objs.size ≤ dx) (dne : dx ≠ a) {t1 : Addr}
    (hx : h'.get? a = some { cls := .ref C, dict := some dx, data := .fields #[.ref t1, .none, .none, .none, .bool false, .none] }) (hn : h'.Ns1 dx (fun g => if g = f then some u else none)) (ry : RelV y u) :
    H dx = none ∧ (∀ fs, Un fs [] H (upd (upd H dx (exd dx [(f, y)])) a (exo a C (some dx))) hp h') ∧ HOk P w (upd (upd H dx (exd dx [(f, y)])) a (exo a C (some dx))) h' := by
  have hnd : H dx = none := hok.fresh dn
  have nd : ∀ {b : Addr} {o : Obj}, hp.get? b = some o → b ≠ dx := fun {b o} q => Nat.ne_of_lt (Nat.lt_of_lt_of_le (Heap.lt_size q) dn)
  have na : ∀ {b : Addr}, H b = none → b ≠ a := fun {b} n z => by
    rw [z, e] at n
    cases n
  refine ⟨hnd, fun fs => {
    keep := fun b o q n _ _ => k b o (na n) q
    slot := fun b o q n _ _ => ⟨o.slots, k b o (na n) q⟩
    free := fun b o q n _ => by rw [upd_ne (na n), upd_ne (nd q)]; exact n
    there := fun b o q _ => by
      by_cases hb : b = a
      · exact ⟨_, by rw [hb]; exact hx⟩
      · exact ⟨o, k b o hb q⟩
    tups := fun b xs q => by rw [upd_ne (at_ne e q exo_tup), upd_ne (ne_of_none q hnd)]; exact q
    frzs := fun b o v q => by rw [upd_ne (at_ne e q exo_frz), upd_ne (ne_of_none q hnd)]; exact q
    tbls := fun b ps q => ⟨#[], by rw [upd_ne (at_ne e q exo_tbl), upd_ne (ne_of_none q hnd), q]; simp⟩ }, fun b o q => ?_⟩
  by_cases hb : b = a
  · subst hb
    rw [upd_same] at q
    cases q
    exact exo_ok hx
  · rw [upd_ne hb] at q
    by_cases hd : b = dx
    · subst hd
      rw [upd_same] at q
      cases q
      exact exd_ok hn (relO_put (fs := []) ry fun g => True.intro)
    · rw [upd_ne hd] at q
      exact (hok b o q).stay (fun c v hc z => k c v (by
          rcases hc with hc | hc
          · rw [hc]
            exact hb
          · exact at_ne e hc exo_own) z)
        (fun c hc => by rw [upd_ne (at_ne e hc exo_own), upd_ne (ne_of_none hc hnd)]; exact hc) (fun c xs hc => by rw [upd_ne (at_ne e hc exo_tup), upd_ne (ne_of_none hc hnd)]; exact hc)
end
def tMkF (C : Addr) (f : Str) (ta : TA) : St → Hp → XK → Prop := fun σ H Q => ta σ H fun vs H1 => ∃ y, vs = [y] ∧ ∀ d, H1 d = none → Q (.ref C) (some d) (upd H1 d (.xd [(f, y)]))
structure ErrC (P : Program) (K : PySem.W.Frag) (C fI cc cda : Addr) (newId i : String) (bm : List Value) (qual vn fld : Str) (params : Arguments) (body : List Stmt) (scope : Scope) (kV doc pm ct : Value) (an : Option Addr) : Prop extends PEI.InitC P K C fI cc cda newId i bm qual vn fld params body scope kV doc pm ct an where
  exC : PySem.W.subIn K (.ref C) (.type "BaseException") = some true
  tyC : PySem.W.typeIn K (.ref C) = some (.type "type")
  kC : PySem.W.keepIn K (.ref C) = true
  iC : PySem.W.findIn K (.ref C) "__init__" = some (some (.ref fI))
  tI : PySem.W.typeIn K (.ref fI) = some (.type "function")
structure InitT (qual vn fld msg : Str) (params : Arguments) (body : List Stmt) (scope : Scope) (p0 p1 p2 p3 pe p5 p6 p7 p8 pc : Pos) (j : Nat) (pl : Sem Bool) : Prop where
  body_ : body = [.Expr (.Call (.Attribute (.Call (.Name "super" p0) [] [] p1) "__init__" p2) [.Constant (.str msg) j pc] [] p3) pe, .Assign [.Attribute (.Name "self" p5) fld p6] (.Name vn p7) p8]
  ks : scope.names.lookup ("super" : Str) = some .globalImplicit
  kc : scope.names.lookup ("__class__" : Str) = some .free
  ka : scope.names.lookup ("self" : Str) = some .local
  kv : scope.names.lookup vn = some .local
  kind : scope.kind = .function
  nocell : ∀ x ∈ scope.names, x.2 ≠ .cell
  co : scope.isCoroutine = false
  gen : scope.isGenerator = false
  ne : vn ≠ "self"
  dbg : (vn == ("__debug__" : Str)) = false
  par : (params.posonlyargs ++ params.args).head?.map (·.arg) = some ("self" : Str)
  ev : ∀ (L fI cc : Addr) (cdv : Value), eval (.Call (.Attribute (.Call (.Name "super" p0) [] [] p1) "__init__" p2) [.Constant (.str msg) j pc] [] p3) (PySem.W.ksEnv qual scope L fI cdv cc) = (do
      let ov ← attributeBase (.Call (.Name "super" p0) [] [] p1) "__init__" (PySem.W.ksEnv qual scope L fI cdv cc) (eval (.Call (.Name "super" p0) [] [] p1) (PySem.W.ksEnv qual scope L fI cdv cc))
      standAt p2.atName
      let (f, first) ← holding [ov] (getMethod ov "__init__" pl)
      callWith p3 f first (backTo p3 (starEach [.Constant (.str msg) j pc] (PySem.W.ksEnv qual scope L fI cdv cc))) [])
  int : ∀ (L fI cc : Addr) (cdv : Value), interactive (PySem.W.ksEnv qual scope L fI cdv cc) = false
  sw : ∀ (L fI cc : Addr) (cdv : Value), swapsWith (.Call (.Attribute (.Call (.Name "super" p0) [] [] p1) "__init__" p2) [.Constant (.str msg) j pc] [] p3) none pe.line (PySem.W.ksEnv qual scope L fI cdv cc) = pure false
  sw2 : ∀ (L fI cc : Addr) (cdv : Value), swapsWith (.Name vn p7) (some (.Attribute (.Name "self" p5) fld p6)) p8.line (PySem.W.ksEnv qual scope L fI cdv cc) = pure false
  bind : ∀ (kV doc pm cdv ct a u : Value) (an : Option Addr) (cc : Addr), bindArgs (PySem.W.ksFn "__init__" qual params body scope .none kV doc pm an cdv ct cc) ⟨[a, u], []⟩ = pure ([(("self" : Str), a), (vn, u)] : List (Str × Value))
theorem pmk_fld {X : Cx} {B newId i : String} {bm : List Value} {C fI cc cda : Addr} {x qual vn fld msg : Str} {params : Arguments} {body : List Stmt} {scope : Scope} {kV doc pm ct : Value} {an : Option Addr} {p0 p1 p2 p3 pe p5 p6 p7 p8 pc p pos : Pos} {j k : Nat} {pl : Sem Bool} {e : Expr} {ta : TA}
    (T : PEI.TailB B newId i bm) (c : ErrC X.prog X.K C fI cc cda newId i bm qual vn fld params body scope kV doc pm ct an) (t : InitT qual vn fld msg params body scope p0 p1 p2 p3 pe p5 p6 p7 p8 pc j pl)
    (hsup : X.mg "super" = none) (hr : Room (k + 1) X.A) (hg : Gl X x) (hm : X.mg x = some (.ref C)) (ha : PA X [e] ta)
    (hdb : (x == ("__debug__" : Str)) = false := by decide) (he : starEach [e] X.env = (false, eval e X.env) :: starEach [] X.env := by rfl) (hpl : (backTo pos (starEach [] X.env)).any (·.1) = false := by rfl) :
    PMk X (.Call (.Name x p) [e] [] pos) (tMkF C fld ta) := by
  intro pins s σ H Q I h
  obtain ⟨bo, nm, q, N, bs, sn, sub, ab, col, dd, k0, k1, k2, k3, k5, hC, hbo, hal⟩ := c.cls
  refine wpAny_Call_Name_kw (ld_glob I hg hm ?_ hdb)
  refine PySem.W.callWith_K (h₀ := X.base) I.ok.mod.kin c.kC (thn (ha.run pos pins s σ H _ I h) fun us s1 ⟨vs, H1, I1, r1, y, ev, q1⟩ => ⟨I1.kIn, ?_⟩) he hpl
  subst ev
  show wpAny _ _ (call (.ref C) us) _ _ _
  obtain ⟨hp, g, dr, tk, os⟩ := s1
  obtain ⟨u, hu, ry⟩ : ∃ u, us = [u] ∧ RelV y u := by
    cases r1 with
    | cons ra rb => cases rb; exact ⟨_, rfl, ra⟩
  subst hu
  have hsz : hp.objs.size ≤ hp.objs.size + 1 := Nat.le_succ _
  have hn : H1 (hp.objs.size + 1) = none := I1.hok.fresh hsz
  have kk : ∀ b o, hp.get? b = some o → ((hp.push (PySem.W.kdv_tup [u])).push (PySem.HandSPX.excO C hp.objs.size)).get? b = some o := fun b o e => Heap.get?_push_of_some _ (Heap.get?_push_of_some _ e)
  have hget : ((hp.push (PySem.W.kdv_tup [u])).push (PySem.HandSPX.excO C hp.objs.size)).get? (hp.objs.size + 1) = some (PySem.HandSPX.excO C hp.objs.size) := by heap_get
  have I2 : Inv X pins σ (upd H1 (hp.objs.size + 1) (exo (hp.objs.size + 1) C none)) ⟨(hp.push (PySem.W.kdv_tup [u])).push (PySem.HandSPX.excO C hp.objs.size), g, dr, tk, os⟩ :=
    I1.laid (t' := tk) (a := hp.objs.size + 1) (o := exo (hp.objs.size + 1) C none) (h' := (hp.push (PySem.W.kdv_tup [u])).push (PySem.HandSPX.excO C hp.objs.size)) kk hsz (exo_ok hget)
  have hxb : X.base.get? (hp.objs.size + 1) = none := by
    cases z : X.base.get? (hp.objs.size + 1) with
    | none => rfl
    | some o =>
      have := Heap.lt_size (I1.bk _ _ z)
      exact absurd (show hp.objs.size + 1 < hp.objs.size from this) (by omega)
  refine wpAny_call (PySem.HandSPX.call_own T.exc hbo (I1.kIn _ _ hC) (PySem.W.looks_findIn I1.kIn c.iC) (fun self => PySem.W.bind_fn I1.kIn self c.tI) (by show 1 ≤ sizeLine; rw [sizeLine_eq]; decide)
    (PEI.init_code (base := X.base) (x := hp.objs.size + 1) (v := u) T rfl t.body_ c.toInitC I.ok.mod (fun b o e => I2.bk b o e) hsup (hr.make C [u] []).depth t.ks t.kc t.ka t.kv t.kind t.nocell t.co t.gen t.ne t.dbg t.par (BindsTo.of_eq (t.bind _ _ _ _ _ _ _ _ _)) hget hxb
      (fun L => t.ev L fI cc _) (fun L => t.int L fI cc _) (fun L => t.sw L fI cc _) (fun L => t.sw2 L fI cc _) fun h' t1 tk' dx kb dn dne hx hn2 => ?_))
  have ea : upd H1 (hp.objs.size + 1) (exo (hp.objs.size + 1) C none) (hp.objs.size + 1) = some (exo (hp.objs.size + 1) C none) := upd_same
  obtain ⟨hnd, un, ok2⟩ := fld_un (y := y) (f := fld) I2.hok ea kb dn dne hx hn2 ry
  have hd1 : H1 dx = none := by rw [upd_ne dne] at hnd; exact hnd
  refine ⟨rfl, mk_end (hp2 := (hp.push (PySem.W.kdv_tup [u])).push (PySem.HandSPX.excO C hp.objs.size)) (raises_own c.exC c.tyC) I1 hsz kk (un _) ok2 rfl I1.bare upd_same (by rw [upd_ne dne, upd_same]) hd1 ?_⟩
  have eH : upd (del (upd (upd (upd H1 (hp.objs.size + 1) (exo (hp.objs.size + 1) C none)) dx (exd dx [(fld, y)])) (hp.objs.size + 1) (exo (hp.objs.size + 1) C (some dx))) (hp.objs.size + 1)) dx (.xd [(fld, y)]) = upd H1 dx (.xd [(fld, y)]) := by
    funext b
    by_cases hb : b = dx
    · rw [hb, upd_same, upd_same]
    · rw [upd_ne hb, upd_ne hb]
      by_cases hb2 : b = hp.objs.size + 1
      · rw [hb2, del_same, hn]
      · rw [del_ne hb2, upd_ne hb2, upd_ne hb, upd_ne hb2]
  rw [eH]
  exact q1 dx hd1
end L2
set_option maxHeartbeats 1000000
namespace PF
open PySem PySem.Spec PyProof.Rows L2 SlX
def DpE (K : PySem.W.Frag) (F : Hp) (v : V) (d : PyData) : Prop := Dp K F v d ∨ (d = .dict [] ∧ rD0.r F v ())
theorem DpE.st {K : PySem.W.Frag} {F F' : Hp} {v : V} {d : PyData} (s : Same F F') (h : DpE K F v d) : DpE K F' v d := h.imp (fun h => dp_same s _ _ h) fun h => ⟨h.1, rD0.st s h.2⟩
theorem DpE.dp {K : PySem.W.Frag} {F : Hp} {v : V} {d : PyData} (h : DpE K F v d) (n : d ≠ .dict []) : Dp K F v d := h.resolve_right fun z => n z.1
def rDt (K : PySem.W.Frag) : Rp PyData := ⟨fun F v d => DpE K F v d, fun s h => DpE.st s h⟩
def ZD (K : PySem.W.Frag) (f : Option Str) (F : Hp) (v : PyData) (d : Option Addr) : Prop := match f with
  | none => d = none
  | some f => ∃ a y, d = some a ∧ F a = some (.xd [(f, y)]) ∧ DpE K F y v
theorem ZD.st {K : PySem.W.Frag} {f : Option Str} {F F' : Hp} {v : PyData} {d : Option Addr} (s : Same F F') (h : ZD K f F v d) : ZD K f F' v d := by
  cases f with
  | none => exact h
  | some f =>
    obtain ⟨a, y, e, g, t⟩ := h
    exact ⟨a, y, e, s _ _ g, t.st s⟩
def ZE (K : PySem.W.Frag) (mg : Str → Option Value) (fl : Str → Option Str) (F : Hp) (e : Er) (cls : Value) (d : Option Addr) : Prop := mg e.cls = some cls ∧ ZD K (fl e.cls) F e.val d
theorem ZE.st {K : PySem.W.Frag} {mg : Str → Option Value} {fl : Str → Option Str} {F F' : Hp} {e : Er} {cls : Value} {d : Option Addr} (s : Same F F') (h : ZE K mg fl F e cls d) : ZE K mg fl F' e cls d := ⟨h.1, h.2.st s⟩
def mdF (K : PySem.W.Frag) (mg : Str → Option Value) (fl : Str → Option Str) (E : XK) : Md := ⟨ZE K mg fl, E⟩
structure GErr (P : Program) (K : PySem.W.Frag) (mg : Str → Option Value) (x f : Str) (C : Addr) : Prop where
  ex : ∃ B newId i bm fI cc cda qual vn msg params body scope kV doc pm ct an p0 p1 p2 p3 pe p5 p6 p7 p8 pc j pl, PEI.TailB B newId i bm ∧ ErrC P K C fI cc cda newId i bm qual vn f params body scope kV doc pm ct an ∧ InitT qual vn f msg params body scope p0 p1 p2 p3 pe p5 p6 p7 p8 pc j pl
  gl : mg x = some (.ref C)
  sup : mg "super" = none
  xf : XfC K C
  nof : PySem.W.findIn K (.ref C) f = some none
section
variable {X : Cx} {k m : Nat} {sp : Sp} {x f : Str} {p pos : Pos} {e : Expr} {es : List Expr} {t : TA} {W : WX} {C : Addr}
def tRaiseF (W : WX) (C : Addr) (f : Str) (ta : TA) : TS := fun _ σ H => tMkF C f ta σ H fun cls d H' => W cls d σ H'
theorem ps_raiseF {pos' : Pos} (tk : Takes X W) (G : GErr X.prog X.K X.mg x f C) (hr : Room (k + 1) X.A) (ha : PA X [e] t) (hc : X.calm = true := by rfl) (hg : Gl X x := by rfl) (hdb : (x == ("__debug__" : Str)) = false := by decide)
    (he : starEach [e] X.env = (false, eval e X.env) :: starEach [] X.env := by rfl) (hpl : (backTo pos (starEach [] X.env)).any (·.1) = false := by rfl) : PS X (.Raise (some (.Call (.Name x p) [e] [] pos)) none pos') (tRaiseF W C f t) := by
  obtain ⟨B, newId, i, bm, fI, cc, cda, qual, vn, msg, params, body, scope, kV, doc, pm, ct, an, p0, p1, p2, p3, pe, p5, p6, p7, p8, pc, j, pl, h1, h2, h3⟩ := G.ex
  exact ps_raise hc tk (pmk_fld h1 h2 h3 G.sup hr hg G.gl ha hdb he hpl)
end
def spOfF {α β : Type} (K : PySem.W.Frag) (mg : Str → Option Value) (fl : Str → Option Str) (S : RA α) (R : Rp β) (m : α → M β) : Sp := fun vs H Q X => ∃ F a, Same F H ∧ S.r F vs a ∧
  (m a).wp 0 (fun b _ => ∀ v F' H', ExtX none F H F' H' → R.r F' v b → Q v H') (fun e => ∀ cls d F' H', ExtX none F H F' H' → ZE K mg fl F' e cls d → X cls d H')
section
variable {Γ Γ' Γ'' Δ Δ' α β γ δ : Type} {μ : Md} {E : EV Γ} {E' : EV Γ'} {E'' : EV Γ''} {El : EV Δ} {El' : EV Δ'} {Ra : Rp α} {Rb : Rp β} {R : Rp γ} {mg : Str → Option Value} {fl : Str → Option Str} {XE : XK} {K : PySem.W.Frag}
theorem spOfF_len {S : RA α} {m : α → M γ} {vs : List V} {H : Hp} {Q : VK} {X : XK} (h : spOfF K mg fl S R m vs H Q X) : vs.length = S.n := by
  obtain ⟨F, a, s, r, _⟩ := h
  exact S.len r
theorem s_raiseF {x f : Str} {C : Addr} {W : WX} {te : TE} {ma : Γ → M α} {dat : α → PyData} (g : mg x = some (.ref C)) (hf : fl x = some f) (dr : ∀ {F : Hp} {v : V} {a : α}, Ra.r F v a → DpE K F v (dat a)) (hW : ∀ {p : Option Addr} {H0 F H : Hp} {σ : L2.St} {ρ : Γ}, E.r p H0 F H σ ρ → WE W σ = XE)
    (ha : SE (mdF K mg fl XE) E Ra te ma) : SS (mdF K mg fl XE) E E' El R (tRaiseF W C f (tCons te tNil)) fun ρ => (ma ρ).bind fun a => M.raise ⟨x, dat a⟩ := fun k F H σ ρ c D w e h => by
  refine ha k F H σ ρ c _ w e (wp_imp h fun a c1 q v F1 H1 x1 w1 r1 => ?_)
  refine ⟨v, rfl, fun d hd => ?_⟩
  have z : XE (.ref C) (some d) (upd H1 d (.xd [(f, v)])) := q (.ref C) (some d) (upd F1 d (.xd [(f, v)])) _ (w1.ext.trans (ExtX.new w1.sub hd _)) ⟨g, by show ZD K (fl x) _ (dat a) _; rw [hf]; exact ⟨d, v, rfl, upd_same, (dr r1).st (ExtX.new (p := k.p) w1.sub hd _).fz⟩⟩
  rw [← hW e.r] at z
  exact z
theorem fn_bodyF {S : RA α} {n : Nat} {ρ0 : α → Γ} {N : List Str} {t : TS} {mb : Γ → M (Ct Γ' Unit γ)} {vs : List V} {H : Hp} {Q : VK} {X : XK} (h0 : St0 S n E ρ0) (hn : N.length = S.n + n) (hb : SS (mdF K mg fl X) E E' eNil R t mb)
    (hs : spOfF K mg fl S R (fun a => (mb (ρ0 a)).fin) vs H Q X) : t { nx := fun _ H' => Q .non H', rt := Q } (L2.start N vs) H := by
  obtain ⟨F, a, s, r, h⟩ := hs
  rw [start_eq (n := n) (by rw [hn, S.len r])]
  refine hb ⟨none, F, H⟩ F H _ (ρ0 a) 0 _ ⟨s, ExtX.refl s, fun _ e => nomatch e⟩ ⟨h0.r r, by rw [h0.ow]; exact List.nodup_nil⟩ ?_
  refine (mb (ρ0 a)).mono 0 (fun t c z => ?_) (fun er z cls d F' H' x hc => z cls d F' H' x hc) h
  cases t with
  | nx _ => exact z.elim
  | rt b => exact fun v F' H' w r => z v F' H' w.ext r
  | bk _ => exact z.elim
  | ct _ => exact z.elim
def SETF (K : PySem.W.Frag) (mg : Str → Option Value) (fl : Str → Option Str) (E : EV Γ) (R : Rp α) (te : WX → TE) (m : Γ → M α) : Prop := ∀ (k : Cn) (F H : Hp) (σ : L2.St) (ρ : Γ) (c : Nat) (Q : VK) (W : WX), Wo k F H c → EI k E F H σ ρ →
  (m ρ).wp c (VP k F H R Q) (fun e => ∀ cls d F' H', ExtX none F H F' H' → ZE K mg fl F' e cls d → W cls d σ H') → te W σ H Q
def SBF (K : PySem.W.Frag) (mg : Str → Option Value) (fl : Str → Option Str) (E : EV Γ) (E' : EV Γ') (El : EV Δ) (R : Rp β) (ts : WX → TS) (m : Γ → M (Ct Γ' Δ β)) : Prop :=
  ∀ (k : Cn) (F H : Hp) (σ : L2.St) (ρ : Γ) (c : Nat) (D : Ends) (W : WX), Wo k F H c → EI k E F H σ ρ → (m ρ).wp c (SP k F E' El R D) (fun e => ∀ cls d F' H', ExtX none F H F' H' → ZE K mg fl F' e cls d → W cls d σ H') → ts W D σ H
theorem set_ofF {f : Γ → Γ'} {te : WX → TE} {m : Γ' → M α} (pl : PlX E E' f) (h : ∀ (σ0 : L2.St) (W : WX), SE (mdF K mg fl (WE W σ0)) (eAt E' σ0) Ra (te W) m) : SETF K mg fl E Ra te fun ρ => (m (f ρ)).still := fun k F H σ ρ c Q W w e q => by
  refine h σ W ⟨none, F, H⟩ F H σ (f ρ) 0 Q ⟨w.sub, ExtX.refl w.sub, fun _ e => nomatch e⟩ ⟨⟨pl.r e.r, rfl⟩, by show (E'.owns σ).Nodup; rw [pl.ow]; exact List.nodup_nil⟩ ?_
  refine (m (f ρ)).mono 0 (fun a d z => ?_) (fun er z cls d F' H' x hc => z cls d F' H' x hc) q
  exact fun v F' H' x _ r => z v F' H' (w.call x).1 (w.call x).2 r
theorem sb_retF {te : WX → TE} {m : Γ → M γ} (he : SETF K mg fl E R te m) : SBF K mg fl E E' El R (fun W => tRet (te W)) fun ρ => (m ρ).bind fun a => .ret (.rt a) := fun k F H σ ρ c D W w e h =>
  he k F H σ ρ c _ W w e (wp_imp h fun a c1 q v F1 H1 x1 w1 r1 => q v F1 H1 w1 r1)
end
def sErr (K : PySem.W.Frag) (mg : Str → Option Value) (fl : Str → Option Str) (a : Addr) (cls : Value) (d : Option Addr) : SR Er :=
  ⟨fun _ _ F _ o e => o = some (.ref a) ∧ ZE K mg fl F e cls d, fun _ => none, fun x ⟨e, h⟩ => ⟨e, h.st x.fz⟩, fun _ _ h => h, fun s _ _ ⟨e, h⟩ => ⟨e, h.st s⟩, fun _ e => nomatch e⟩
theorem put_nil {i : Nat} : PutS eNil i sUn eNil (fun δ _ => δ) where
  put := fun {p H0 F H σ ρ o b} e _ => by
    have e : σ = [] := e
    subst e
    exact show ([] : L2.St).set i o = [] from rfl
  sub := fun h => nomatch h
  nd := fun _ _ => List.nodup_nil
section
variable {Γ Γ' Γh Γ1 Δ α β γ : Type} {μ : Md} {E : EV Γ} {E' : EV Γ'} {El : EV Δ} {R : Rp γ} {mg : Str → Option Value} {fl : Str → Option Str} {Eh : Addr → Value → Option Addr → EV Γh} {E1 : Addr → Value → Option Addr → EV Γ1} {K : PySem.W.Frag}
theorem e_xf {E : EV Γ} {a C : Addr} {cls : Value} {d : Option Addr} {i : Nat} {x f : Str} {get : Γ → Er} (g : mg x = some (.ref C)) (hf : fl x = some f) (hg : GetS E i (sErr K mg fl a cls d) get) :
    SE μ E (rDt K) (tXf a cls d C f (tVar i)) fun ρ => M.need ((get ρ).cls = x) (M.ret (get ρ).val) := fun k F H σ ρ c Q w e ⟨q1, q⟩ => by
  obtain ⟨o, h1, h2, h3, h4⟩ := hg.get e.r
  subst h2
  rw [q1] at h3 h4
  rw [g] at h3
  unfold ZD at h4
  rw [hf] at h4
  obtain ⟨dd, y, e1, e2, e3⟩ := h4
  refine ⟨.ref a, h1, rfl, (Option.some.inj h3).symm, dd, [(f, y)], y, e1, w.sub _ _ e2, by simp [List.lookup], ?_⟩
  exact q y F H (ExtX.refl w.sub) w e3
theorem s_tryAs {Wout : WX} {c : Value} {i : Nat} {ys : List Str} {ts : Addr → Value → Option Addr → TS} {tb : WX → TS} {mb : Γ → M (Ct Γ' Δ γ)} {mh : Γh → M (Ct Γ1 Δ γ)} {put : Γ → Er → Γh} {put2 : Γ1 → Unit → Γ'}
    (hb : SBF K mg fl E E' El R tb mb) (hy : Exm mg K c true ys) (hp : ∀ a cls d, PutS E i (sErr K mg fl a cls d) (Eh a cls d) put) (hh : ∀ a cls d, SS μ (Eh a cls d) (E1 a cls d) El R (ts a cls d) mh)
    (hx : ∀ a cls d, PutS (E1 a cls d) i sUn E' put2) (hl : PutS El i sUn El (fun δ _ => δ)) :
    SS μ E E' El R (fun D σ H => tb (wAs K c i ts Wout D) D σ H) fun ρ => M.tryM (mb ρ) fun e => M.byE ys [] ((mh (put ρ e)).thn fun ρ1 => .ret (.nx (put2 ρ1 ()))) (fun _ => M.none) e := fun k F H σ ρ cc D w e q => by
  refine hb k F H σ ρ cc D _ w e ((mb ρ).mono cc (fun _ _ z => z) (fun er z cls d F' H' x g => ?_) q)
  rcases z with ⟨iy, z⟩ | ⟨iy, _⟩
  · refine ⟨true, hy.at iy g.1, fun _ a na => ?_, fun b => Bool.noConfusion b⟩
    have e1 : EI k E F' H' σ ρ := e.step (w.call x).1
    have e2 : EI k (Eh a cls d) F' H' (σ.set i (some (.ref a))) (put ρ er) := ⟨(hp a cls d).put e1.r ⟨rfl, g⟩, (hp a cls d).nd e1.nd fun D z => nomatch z⟩
    refine hh a cls d k F' H' _ (put ρ er) cc _ (w.call x).2 e2 ((mh (put ρ er)).mono cc (fun t c1 z => ?_) (fun _ z => z) z)
    have z := z
    cases t with
    | nx ρ1 => exact fun F1 H1 σ1 s1 w1 e3 => z F1 H1 _ (x.fz.trans s1) w1 ⟨(hx a cls d).put (b := ()) e3.r trivial, (hx a cls d).nd e3.nd fun D z => nomatch z⟩
    | rt b => exact z
    | bk δ => exact fun F1 H1 σ1 s1 w1 e3 => z F1 H1 _ (x.fz.trans s1) w1 ⟨hl.put (b := ()) e3.r trivial, hl.nd e3.nd fun D z => nomatch z⟩
    | ct δ => exact fun F1 H1 σ1 s1 w1 e3 => z F1 H1 _ (x.fz.trans s1) w1 ⟨hl.put (b := ()) e3.r trivial, hl.nd e3.nd fun D z => nomatch z⟩
  · cases iy
end
section
variable {Γ α β γ : Type} {μ : Md} {E : EV Γ} {Ra : Rp α} {Rb : Rp β} {R : Rp γ} {K : PySem.W.Frag}
theorem e_dat {d : α → PyData} {n : Nat} {te : TE} {m : Γ → M α} (hd : DpR K Ra d n) (h : SE μ E Ra te m) : SE μ E (rDt K) te fun ρ => (m ρ).bind fun a => .ret (d a) := fun k F H σ ρ c Q w e q =>
  h k F H σ ρ c Q w e (wp_imp q fun a c1 z v F' H' x w' r => z v F' H' x w' (.inl (hd.dp r)))
theorem o_eqDt : OpS μ (rEqD K) (rDt K) (rDt K) rBl fun a b => .need ((a.canLay0 = true ∧ a.depth ≤ 64) ∧ (b.canLay0 = true ∧ b.depth ≤ 64)) (.ret (PyData.eqv a b)) := fun k F H c x y a b Q w hx hy q =>
  ⟨_, _, dp_same w.sub _ _ (hx.dp fun e => by have := q.1.1.1; rw [e] at this; cases this), dp_same w.sub _ _ (hy.dp fun e => by have := q.1.2.1; rw [e] at this; cases this), shaped_of q.1.1.2 (Nat.le_refl _) q.1.1.1, shaped_of q.1.2.2 (Nat.le_refl _) q.1.2.1, q.2 _ F H (ExtX.refl w.sub) w rfl⟩
def tyD : PyData → String
  | .none => "NoneType"
  | .bool _ => "bool"
  | .int _ => "int"
  | .str _ => "str"
  | .list _ => "list"
  | .tuple _ => "tuple"
  | .dict _ => "dict"
theorem dp_ty {F H : Hp} {v : V} {d : PyData} (s : Same F H) (h : Dp K F v d) : TyY K H v (.type (tyD d)) := by
  cases h with
  | non => exact .x (.base .non)
  | bl b => exact .x (.base (.bl b))
  | int i => exact .x (.base (.int i))
  | str x => exact .x (.base (.str x))
  | lst h t =>
    rcases h with (h | ⟨o, h⟩) | ⟨o, its, n, h1, h2, _⟩
    · exact .x (.base (.lst (s _ _ h)))
    · exact .x (.base (.frz (s _ _ h)))
    · exact .x (.kList h1 h2)
  | tup h t =>
    rcases h with (h | ⟨o, h⟩) | ⟨o, its, n, h1, h2, _⟩
    · exact .x (.base (.tup (s _ _ h)))
    · exact .x (.fTuple (s _ _ h))
    · exact .x (.kTuple h1 h2)
theorem dpE_ty {F H : Hp} {v : V} {d : PyData} (s : Same F H) (h : DpE K F v d) : TyY K H v (.type (tyD d)) := by
  rcases h with h | ⟨rfl, h⟩
  · exact dp_ty s h
  · exact tr_d0.ty s h
def isD (u : String) (d : PyData) : Bool := tyD d == u || (u == "int" && tyD d == "bool")
theorem kit_D {d : PyData} {u : String} (hu : u ∈ ["int", "bool", "str", "list", "tuple"]) {F : Hp} {v : V} (h : DpE K F v d) : PySem.W.kitOne K (.type (tyD d)) (.type u) = some (isD u d) := by
  simp only [List.mem_cons, List.not_mem_nil, or_false] at hu
  have key : ∀ t : String, t ∈ ["NoneType", "bool", "int", "str", "list", "tuple", "dict"] → PySem.W.kitOne K (.type t) (.type u) = some (t == u || (u == "int" && t == "bool")) := fun t ht => by
    simp only [List.mem_cons, List.not_mem_nil, or_false] at ht
    rcases ht with rfl | rfl | rfl | rfl | rfl | rfl | rfl <;> rcases hu with rfl | rfl | rfl | rfl | rfl <;> exact kit_ty (by decide +kernel)
  rcases h with h | ⟨rfl, h⟩
  · cases h <;> exact key _ (by simp [tyD])
  · exact key _ (by simp [tyD])
theorem c_isiDt {u : String} (hu : u ∈ ["int", "bool", "str", "list", "tuple"] := by decide) : CaS μ (rIsiU K) (a2 (rDt K) (rTyV u)) rBl fun a => .ret (isD u a.1) := fun k F H c vs a Q w r q => by
  obtain ⟨v, x, e, r1, r2⟩ := two r
  have r2' : x = .ty u := r2
  subst r2'
  exact ⟨v, _, _, _, _, e, .ty u, dpE_ty w.sub r1, kit_D hu r1, VP.now w q rfl⟩
def dStr : PyData → Option Str
  | .str i => some i
  | _ => none
theorem e_dStr {te : TE} {m : Γ → M PyData} (h : SE μ E (rDt K) te m) : SE μ E rStr te fun ρ => (m ρ).bind fun d => M.the (dStr d) := fun k F H σ ρ c Q w e q =>
  h k F H σ ρ c Q w e (wp_imp q fun d c1 z v F' H' x w' r => by
    obtain ⟨i, ei, z⟩ := z
    cases d with
    | str j =>
      obtain rfl : j = i := Option.some.inj ei
      have : v = .str j := by
        rcases r with r | ⟨e, _⟩
        · cases r; rfl
        · cases e
      exact z v F' H' x w' this
    | _ => cases ei)
theorem e_d0Dt {te : TE} {m : Γ → M Unit} (h : SE μ E rD0 te m) : SE μ E (rDt K) te fun ρ => (m ρ).bind fun _ => .ret (.dict []) := fun k F H σ ρ c Q w e q =>
  h k F H σ ρ c Q w e (wp_imp q fun a c1 z v F' H' x w' r => z v F' H' x w' (.inr ⟨rfl, r⟩))
end
end PF
set_option maxHeartbeats 2000000
namespace PF
open PySem PySem.Spec PyProof.Rows L2
open LamX (CodeO TabB LamS lamEnv lamCx)
inductive LmK (P : Addr) (q : Str) (H : Hp) (ps : Array Value) (c' : Addr) : Hp → Prop
  | hit (e : ∃ pos : Pos, codeAmong pos ps.toList = some (.ref c')) : LmK P q H ps c' H
  | new {more : Array Value} (n : H c' = none) (tr : TriplesOk (ps ++ more).toList)
      (el : ∀ (pos : Pos) (cv : Value), codeAmong pos (ps ++ more).toList = some cv → codeAmong pos ps.toList = some cv ∨ cv = .ref c') : LmK P q H ps c' (upd (upd H P (.tbl (ps ++ more))) c' (CodeO c' q))
end PF
set_option maxHeartbeats 1000000
namespace PF
open PySem PySem.Spec PyProof.Rows L2 SlX
section
variable {K : PySem.W.Frag} {mg : Str → Option Value} {fl : Str → Option Str}
def ThOk (K : PySem.W.Frag) (mg : Str → Option Value) (fl : Str → Option Str) (tl : XK → Hp → VK → Prop) (F : Hp) (m : M Unit) : Prop := ∀ (XE : XK) (F1 H1 : Hp) (Q : VK), Same F F1 → Same F1 H1 →
  m.wp 0 (fun _ _ => ∀ v F' H', ExtX none F1 H1 F' H' → Q v H') (fun e => ∀ cls d F' H', ExtX none F1 H1 F' H' → ZE K mg fl F' e cls d → XE cls d H') → tl XE H1 Q
theorem ThOk.st {tl : XK → Hp → VK → Prop} {F F' : Hp} {m : M Unit} (s : Same F F') (h : ThOk K mg fl tl F m) : ThOk K mg fl tl F' m := fun XE F1 H1 Q a b q => h XE F1 H1 Q (s.trans a) b q
structure HasT {Γ : Type} (E : EV Γ) : Prop where
  t : ∀ {p : Option Addr} {H0 F H : Hp} {σ : L2.St} {ρ : Γ}, E.r p H0 F H σ ρ → TbA F H
structure PlV {Γ Γ' : Type} (E : EV Γ) (E' : EV Γ') (f : Γ → Γ') : Prop where
  r : ∀ {p : Option Addr} {H0 F H : Hp} {σ : L2.St} {ρ : Γ}, E.r p H0 F H σ ρ → ∀ {p' : Option Addr} {H0' F1 H1 : Hp}, Same F F1 → E'.r p' H0' F1 H1 σ (f ρ)
  ow : ∀ σ, E'.owns σ = []
section
variable {Γ Γ' α β γ : Type} {E : EV Γ} {E' : EV Γ'} {R : Rp γ}
structure StT (S : RA α) (n : Nat) (E : EV Γ) (ρ0 : α → Γ) : Prop where
  r : ∀ {p : Option Addr} {H0 F H : Hp} {vs : List V} {a : α}, TbA F H → S.r F vs a → E.r p H0 F H (vs.map some ++ List.replicate n none) (ρ0 a)
  ow : ∀ σ, E.owns σ = []
structure StDT (S : RA α) (n : Nat) (E : EV Γ) (ρ0 : α → Γ) : Prop where
  r : ∀ {p : Addr} {H0 F H : Hp} {vs : List V} {a : α}, TbA F H → S.r F vs a → E.r (some p) H0 F H ((.ref p :: vs).map some ++ List.replicate n none) (ρ0 a)
  ow : ∀ σ, E.owns σ = []
end
end
end PF
namespace PF
open PySem PySem.Spec PyProof.Rows L2
abbrev Cls := Value × Option Nat × (Addr → Value → Option Addr → TS)
def SuOk (X : Cx) (su : List Stmt) (ts : Addr → Value → Option Addr → TS) : Prop :=
  ∀ (a : Addr) (oe : Obj) (cls : Value) (d : Option Addr) (pn : List (Addr × Obj)), Zc cls d oe → (∃ vs, oe.data = .fields vs) → PSs (X.suite a ((a, oe) :: pn)) su (ts a cls d)
inductive HdsM (X : Cx) : List ExceptHandler → List Cls → Prop
  | nil : HdsM X [] []
  | one {x : Str} {c : Value} {ts : Addr → Value → Option Addr → TS} {u : Stmt} {us : List Stmt} {p p' : Pos} {hds : List ExceptHandler} {l : List Cls} (hc : Names X x c) (su : SuOk X (u :: us) ts) (r : HdsM X hds l) :
      HdsM X (.ExceptHandler (some (.Name x p)) none (u :: us) p' :: hds) ((c, none, ts) :: l)
  | as_ {x n : Str} {i : Nat} {c : Value} {ts : Addr → Value → Option Addr → TS} {u : Stmt} {us : List Stmt} {p p' : Pos} {hds : List ExceptHandler} {l : List Cls} (hN : X.N.Nodup) (hi : X.N[i]? = some n) (hl : X.env.kindOf n = some .local)
      (hc : Names X x c) (su : SuOk X (u :: us) ts) (r : HdsM X hds l) : HdsM X (.ExceptHandler (some (.Name x p)) (some n) (u :: us) p' :: hds) ((c, some i, ts) :: l)
end PF
namespace PF
open PySem PySem.Spec PyProof.Rows L2 SlX
section
variable {Γ : Type} {α γ : Type} {E : EV Γ} {R : Rp γ}
theorem e_callG {S : RA α} {ta : TA} {ma : Γ → M α} {m : α → M γ} {n : Nat} (hn : S.n = n) (ha : SA md0 E S ta ma) : SE md0 E R (tCallG (spOf S R m) n ta) fun ρ => (ma ρ).bind fun a => (m a).still := fun k F H σ ρ c Q w e h =>
  ha k F H σ ρ c _ w e (wp_imp h fun a c1 q vs F1 H1 x1 w1 r1 => by
    refine ⟨(S.len r1).trans hn, ?_⟩
    exact ⟨F1, a, w1.sub, r1, (m a).mono 0 (fun b _ z v F' H' x r => z v F' H' (x1.trans (w1.call x).1) (w1.call x).2 r) (fun _ z => XP.no w1 z) q⟩)
end
structure FunC (K : PySem.W.Frag) (x qual : Str) (st : Stmt) (f : Addr) (fd : FuncData) (c : Addr) : Prop where
  ex : ∃ (oc : Value) (od : Option Addr) (kV doc pm : Value) (an : Option Addr) (ct : Value) (osl : Array (Option Value)),
    fd = PySem.W.fnOf x qual (defArgs st) (defBody st) (defScope st) .none kV doc pm an (.ref c) ct ∧ K.lookup f = some ⟨oc, od, .func fd, osl⟩ ∧ PySem.W.codeIn K (.ref c) qual = true
section
variable {P : Program} {w : World} {K : PySem.W.Frag} {mg : Str → Option Value} {base : Heap} {k : Nat} {f c : Addr} {fd : FuncData} {N ps : List Str} {sp : Sp} {x qual : Str} {st : Stmt}
theorem FunC.ok (F : FunC K x qual st f fd c) (S : FnScope N ps (defScope st)) (len : ∀ vs H Q E, sp vs H Q E → vs.length = ps.length)
    (body : ∀ (A : Around) (outer : List Env) (s : Shared) (H : Hp) (vs : List V) (Q : VK) (E : XK), Room k (A.deeper (envOfC qual (defScope st) s.heap.objs.size f (.ref c))) → sp vs H Q E →
      ∃ t, PSs (cxOf CX0 P w K mg base N qual (defScope st) f (.ref c) A outer s H E).nox (defBody st) t ∧ t { nx := fun _ H' => Q .non H', rt := Q } (start N vs) H) : FnOk P w K mg base CX0 (k + 1) f fd ps sp := by
  obtain ⟨oc, od, kV, doc, pm, an, ct, osl, rfl, lk, cd⟩ := F.ex
  exact fn_of lk cd S len fun A outer s H vs Q E hr h => (body A outer s H vs Q E hr h).imp fun t z => ⟨z.1.nox, z.2⟩
theorem FunC.okG (F : FunC K x qual st f fd c) (S : FnScope N ps (defScope st)) (b : Binds K fd ps [])
    (body : ∀ (Ar : Around) (out : List Env) (s : Shared) (G : Hp) (vs : List V) (R : VK), Ar.guards = some [] → Room k (Ar.deeper (envOfC qual (defScope st) s.heap.objs.size f (.ref c))) → sp vs G R E0 →
      ∃ t, PSs (cxOf CX0 P w K mg base N qual (defScope st) f (.ref c) Ar out s G E0).nox (defBody st) t ∧ t { nx := fun _ H' => R .non H', rt := R } (start N vs) G) : FnG P w K mg base (k + 1) f ps.length sp := by
  intro Ar out s0 G us vs R hg hr e0 hl r hsp
  obtain ⟨oc, od, kV, doc, pm, an, ct, osl, rfl, lk, hcd⟩ := F.ex
  have KX : K.In s0.heap := e0.mod.kin.keeps fun b o e => (e0.bs b o e).1
  have l2 : us.length = ps.length := r.length.symm.trans hl
  have b2 := b s0 us KX (by simpa using l2)
  rw [List.append_nil] at b2
  have kinds : ∀ y ∈ ps.zip us, (defScope st).names.lookup y.1 = some .local ∨ ((defScope st).names.lookup y.1 = some .cell ∧ ((cellsFrom (s0.heap.objs.size + 1) (defScope st).names []).lookup y.1).isSome = true) := fun y hy =>
    (S.par y.1 (List.of_mem_zip (a := y.1) (b := y.2) hy).1).imp id fun q => ⟨q, PySem.W.cellsFrom_some _ _ _ (.inl q)⟩
  refine codeAny_call_function hr.depth (KX _ _ lk) rfl S.co S.gen rfl (PySem.W.codeRec_of KX hcd) (b2 _ _ _ _ (wpAny_newFunctionEnv_cells S.kind kinds fun ev hev s1 x => ?_))
  subst hev
  refine ⟨(e0.mod.nolimit.keeps fun b o e => (e0.bs b o e).1).keeps x.toInCall.keep, codeAny_func ?_⟩
  obtain ⟨t, ht, hq⟩ := body Ar out s0 G vs R hg (hr.deeper _) hsp
  have J : Inv (cxOf CX0 P w K mg base N qual (defScope st) f (.ref c) Ar out s0 G E0) [] (start N vs) G s1 := inv_start S hr.hd e0 hl r x
  refine wpAny_mono (ht.nox.run [] s1 (start N vs) G _ J hq) (fun fl s' hs => ?_) fun _ _ z => z
  cases fl with
  | ret u => obtain ⟨v, _, G', J', rv, q⟩ := hs; exact ⟨v, G', J'.os, J'.bare, J'.base, J'.hok, rv, q⟩
  | next => obtain ⟨_, G', J', q⟩ := hs; exact ⟨V.non, G', J'.os, J'.bare, J'.base, J'.hok, rfl, q⟩
  | brk => obtain ⟨_, _, _, q⟩ := hs; exact q.elim
  | cont => obtain ⟨_, _, _, q⟩ := hs; exact q.elim
end
structure GTh (K : PySem.W.Frag) (mg : Str → Option Value) (x a : Str) (st : Stmt) : Prop where
  ex : ∃ g fd, mg x = some (.ref g) ∧ Fun K x x st g fd ∧ Binds K fd [a] []
section
variable {μ : Md} {K : PySem.W.Frag}
theorem c_reprDt : CaS μ (rRepr K) (a1 (rDt K)) rStr fun a => .need (a.1.showable = true ∧ a.1.hasDict = false ∧ a.1.shown.length ≤ sizeLine ∧ a.1.depth ≤ 64) (.ret a.1.shown) := fun k F H c vs a Q w r q => by
  obtain ⟨v, e, r⟩ := one r
  exact ⟨v, a.1, e, dp_same w.sub _ _ (r.dp fun z => by have := q.1.2.1; rw [z] at this; cases this), q.1.1, q.1.2.1, q.1.2.2.1, q.1.2.2.2, VP.now w q.2 rfl⟩
end
section
variable {Γ Γ' Δ α β γ κ : Type} {μ : Md} {E : EV Γ} {E' : EV Γ'} {El : EV Δ} {Ra : Rp α} {Rb : Rp β} {R : Rp γ} {Rk : Rp κ} {kf : κ → L2.Key} {K : PySem.W.Frag} [DecidableEq κ]
def ddrop (l : List (κ × β)) (k : κ) : List (κ × β) := l.filter fun p => decide (p.1 ≠ k)
theorem AllD.drop {f : V → β → Prop} (inj : ∀ {a b : κ}, kf a = kf b → a = b) {kvs : List (L2.Key × V)} {l : List (κ × β)} (h : AllD kf f kvs l) (k : κ) : AllD kf f (dropK kvs (kf k)) (ddrop l k) := by
  unfold dropK ddrop
  induction h with
  | nil => exact .nil
  | @cons v k' a kvs l h t ih =>
    rw [List.filter_cons, List.filter_cons]
    by_cases c : k' = k
    · rw [if_neg (by simp [c]), if_neg (by simp [c])]; exact ih
    · have c1 : decide ((kf k', v).1 ≠ kf k) = true := decide_eq_true fun z => c (inj z)
      have c2 : decide ((k', a).1 ≠ k) = true := decide_eq_true c
      rw [if_pos c1, if_pos c2]; exact .cons h ih
end
end PF
set_option maxHeartbeats 4000000
namespace PF
open PySem PySem.Spec PyProof.Rows L2 SlX
section
variable {Γ α β γ δ : Type} {μ : Md} {E : EV Γ} {Ra : Rp α} {Rb : Rp β} {R : Rp γ} {K : PySem.W.Frag}
def rUn (Ra : Rp α) (Rb : Rp β) : Rp (α ⊕ β) := ⟨fun F v s => match s with
  | .inl a => Ra.r F v a
  | .inr b => Rb.r F v b, fun {F F' v s} h q => by
  cases s with
  | inl a => exact Ra.st h q
  | inr b => exact Rb.st h q⟩
theorem coe_l {F : Hp} {v : V} {a : α} (h : Ra.r F v a) : (rUn Ra Rb).r F v (.inl a) := h
theorem coe_r {F : Hp} {v : V} {b : β} (h : Rb.r F v b) : (rUn Ra Rb).r F v (.inr b) := h
def sumE (m : α → M γ) (n : β → M γ) : α ⊕ β → M γ
  | .inl a => m a
  | .inr b => n b
theorem cas_un {r : List V → Hp → VK → Prop} {S : RA δ} {m1 : α × δ → M γ} {m2 : β × δ → M γ} (h1 : CaS μ r (aCons Ra S) R m1) (h2 : CaS μ r (aCons Rb S) R m2) : CaS μ r (aCons (rUn Ra Rb) S) R fun a => sumE (fun x => m1 (x, a.2)) (fun y => m2 (y, a.2)) a.1 := fun k F H c vs a Q w rr q => by
  obtain ⟨a1, a2⟩ := a
  cases a1 with
  | inl x => exact h1 k F H c vs (x, a2) Q w rr q
  | inr y => exact h2 k F H c vs (y, a2) Q w rr q
end
section
variable {Γ κ α β : Type} {μ : Md} {E : EV Γ} {Ra : Rp α} {Rb : Rp β} {kf : κ → L2.Key}
theorem AllD.un {F : Hp} {kvs : List (L2.Key × V)} {l : List (κ × α)} (h : AllD kf (Ra.r F) kvs l) : AllD kf ((rUn Ra Rb).r F) kvs (l.map fun p => (p.1, Sum.inl p.2)) := by
  induction h with
  | nil => exact .nil
  | cons h _ ih => exact .cons h ih
end
def spOr (sp1 sp2 : Sp) : Sp := fun vs H Q X => sp1 vs H Q X ∨ sp2 vs H Q X
theorem FnOk.or {P : Program} {w : World} {K : PySem.W.Frag} {mg : Str → Option Value} {base : Heap} {CX : CXT} {k : Nat} {f : Addr} {fd : FuncData} {ps : List Str} {sp1 sp2 : Sp} (h1 : FnOk P w K mg base CX k f fd ps sp1) (h2 : FnOk P w K mg base CX k f fd ps sp2) : FnOk P w K mg base CX k f fd ps (spOr sp1 sp2) :=
  ⟨fun vs H Q E q => q.elim (h1.len vs H Q E) (h2.len vs H Q E), fun A outer s H args us vs Q E hr he hb hv hs => hs.elim (h1.run A outer s H args us vs Q E hr he hb hv) (h2.run A outer s H args us vs Q E hr he hb hv)⟩
end PF
set_option maxHeartbeats 1000000
namespace PF
open PySem PySem.Spec PyProof.Rows L2 SlX
def lftS {α β : Type} : α ⊕ β → Option α
  | .inl a => some a
  | .inr _ => none
theorem un_get {α β : Type} {Ra : Rp α} {Rb : Rp β} {F : Hp} {v : V} {u : α ⊕ β} {a : α} (h : (rUn Ra Rb).r F v u) (e : lftS u = some a) : Ra.r F v a := by
  cases u with
  | inl x => cases e; exact h
  | inr x => cases e
end PF
namespace L2
open PySem PySem.Spec PyProof.Rows
section
variable {X : Cx} {CX : CXT} {k n : Nat} {f C : Addr} {fd : FuncData} {ps ks : List Str} {sp : Sp} {E : XK} {x : Str} {p pos : Pos} {e : Expr} {es : List Expr} {kws : List Keyword} {t tk : TA} {g : List Value → List Value → List Value} {gV : List V → List V → List V} {ds : List Value} {dvs : List V}
theorem run_fnRA {pins : List (Addr × Obj)} {σ : St} {H : Hp} {s : Shared} {g : Addr} {Q : VK} {us : List Value} {vs : List V} (F : FnR X.prog X.w X.K X.mg X.base CX k g sp) (hr : Room k X.A) (hx : PassesAt CX X σ E) (I : Inv X pins σ H s) (r : Vals vs us) (h : sp vs H Q E) :
    codeAny (model X.prog X.w) X.A (.call (.ref g) ⟨us, []⟩) (fun r s' => match r with | .ok (.ret v) => EP X pins σ Q v s' | .ok _ => False | .error e => X.xe e s') s := by
  refine codeAny_mono (F X.A X.stack s H us vs Q E hr I.env0 r h) fun r s' hq => ?_
  cases r with
  | error e => exact hx pins H s e s' I hq
  | ok fl =>
    cases fl with
    | ret u => exact I.after hq
    | next => exact False.elim hq
    | brk => exact False.elim hq
    | cont => exact False.elim hq
end
end L2
namespace PF
open PySem PySem.Spec PyProof.Rows L2 SlX
structure GMX (P : Program) (w : World) (K : PySem.W.Frag) (mg : Str → Option Value) (base : Heap) (x : Str) (C : Addr) (k : Nat) (dvs : List V) (sp : Sp) : Prop where
  ex : ∃ f fd ps ds, mg x = some (.ref C) ∧ Mk K C f ∧ Binds K fd ps ds ∧ Vals dvs ds ∧ FnOk P w K mg base (L2.CX P w) k f fd ps sp
structure GMKX (P : Program) (w : World) (K : PySem.W.Frag) (mg : Str → Option Value) (base : Heap) (x : Str) (C : Addr) (k n : Nat) (ks : List Str) (gV : List V → List V → List V) (sp : Sp) : Prop where
  ex : ∃ f fd ps g, mg x = some (.ref C) ∧ Mk K C f ∧ KBn K fd ps (n + 1) ks g gV ∧ FnOk P w K mg base (L2.CX P w) k f fd ps sp
theorem fnR_ofA {P : Program} {w : World} {CX : CXT} {K : PySem.W.Frag} {mg : Str → Option Value} {base : Heap} {k : Nat} {f : Addr} {fd : FuncData} {ps : List Str} {sp : Sp} (F : FnOk P w K mg base CX k f fd ps sp) (b : Binds K fd ps []) : FnR P w K mg base CX k f sp := fun Ar out st G us vs R E hr e0 r h => by
  have KX : K.In st.heap := e0.mod.kin.keeps fun b o e => (e0.bs b o e).1
  have l2 : us.length = ps.length := r.length.symm.trans (F.len _ _ _ _ h)
  have b2 := b st us KX (by simpa using l2)
  rw [List.append_nil] at b2
  exact F.run Ar out st G ⟨us, []⟩ us vs R E hr e0 b2 r h
structure GBX (P : Program) (w : World) (K : PySem.W.Frag) (mg : Str → Option Value) (base : Heap) (C : Addr) (op : Operator) (k : Nat) (sp : Sp) : Prop where
  ex : ∃ g, PySem.W.findIn K (.ref C) (PySem.dunder op.info.2) = some (some (.ref g)) ∧ PySem.W.isFn K (.ref g) = true ∧ FnR P w K mg base (L2.CX P w) k g sp
  first : PySem.W.selfFirst K C = true
structure GMeX (P : Program) (w : World) (K : PySem.W.Frag) (mg : Str → Option Value) (base : Heap) (C : Addr) (m : Str) (k : Nat) (sp : Sp) : Prop where
  ex : ∃ g, Meth K C m g ∧ FnR P w K mg base (L2.CX P w) k g sp
end PF
namespace L2
open PySem PySem.Spec PyProof.Rows
section
variable {P : Program} {w : World} {K : PySem.W.Frag} {mg : Str → Option Value} {base : Heap} {x qual : Str} {params : Arguments} {body : List Stmt} {scope : Scope} {dvs : List V} {kws : List (Str × V)} {f : Addr} {fd : FuncData}
theorem FunD.okX {N ps : List Str} {k : Nat} {sp : Sp} (F : FunD K x qual params body scope dvs kws f fd) (S : FnScope N ps scope) (len : ∀ vs H Q E, sp vs H Q E → vs.length = ps.length)
    (hbody : ∀ (cdv : Value) (A : Around) (outer : List Env) (s : Shared) (H : Hp) (vs : List V) (Q : VK) (E : XK), Room k (A.deeper (envOfC qual scope s.heap.objs.size f cdv)) → sp vs H Q E →
      ∃ t, PSs (cxOf (L2.CX P w) P w K mg base N qual scope f cdv A outer s H E) body t ∧ t { nx := fun _ H' => Q .non H', rt := Q } (start N vs) H) : FnOk P w K mg base (L2.CX P w) (k + 1) f fd ps sp := F.ok S len hbody
end
end L2
namespace PF
open PySem PySem.Spec PyProof.Rows L2 SlX
theorem all_map {α β : Type} {Ra : Rp α} {Rb : Rp β} {f : α → β} (h : ∀ {F : Hp} {v : V} {a : α}, Ra.r F v a → Rb.r F v (f a)) {F : Hp} : ∀ {vs : List V} {xs : List α}, All2 (Ra.r F) vs xs → All2 (Rb.r F) vs (xs.map f)
  | _, _, .nil => .nil
  | _, _, .cons r t => .cons (h r) (all_map h t)
end PF
namespace L2
open PySem PySem.Spec PyProof.Rows
section
variable {X : Cx}
theorem op_mul_str : OpR X (binaryOp .Mult) (fun x y H Q => ∃ i n, x = .str i ∧ y = .int n ∧ MulOk i n ∧ Q (.str (Txt.mul i n)) H) := by
  intro pins s σ H x y v u Q I rx ry h
  obtain ⟨i, j, rfl, rfl, hz, q⟩ := h
  obtain ⟨t, rfl⟩ := rx
  obtain ⟨t', rfl⟩ := ry
  exact SB.mul hz (fun t' tk => ⟨.str (Txt.mul i j), H, I.tok _, ⟨_, rfl⟩, q⟩)
end
end L2
namespace PF
open PySem PySem.Spec PyProof.Rows L2 SlX
def dOpt {α : Type} (d : α → PyData) : Option α → PyData
  | none => .none
  | some a => d a
theorem dp_opt {α : Type} {Ra : Rp α} {K : PySem.W.Frag} {d : α → PyData} {n : Nat} (h : DpR K Ra d n) : DpR K (rOpt Ra) (dOpt d) n := ⟨fun {F v a} z => by
  rcases z with ⟨rfl, rfl⟩ | ⟨x, rfl, r, _⟩
  · exact .non
  · exact h.dp r, fun a => by
  cases a with
  | none => simp [dOpt, PyData.depth]
  | some x => exact h.deep x⟩
theorem o_mulS {μ : Md} : OpS μ (fun x y H Q => ∃ i n, x = .str i ∧ y = .int n ∧ MulOk i n ∧ Q (.str (Txt.mul i n)) H) rStr rInt rStr fun a b => .need (MulOk a b) (.ret (Txt.mul a b)) := fun k F H c x y a b Q w r r2 q => ⟨a, b, r, r2, q.1, VP.now w q.2 rfl⟩
theorem e_txHom {Γ α β : Type} {μ : Md} {E : EV Γ} {Ra : Rp β} {K : PySem.W.Frag} {S : RA α} {f : α → List β} (h : HomR Ra S f) {te : TE} {m : Γ → M α} (he : SE μ E (rTx K S) te m) : SE μ E (rTup K Ra) te fun ρ => (m ρ).bind fun a => .ret (f a) :=
  e_coeX (Ra := rTx K S) (Rb := rTup K Ra) (fun z => by
    obtain ⟨p, vs, e, hp, r⟩ := z
    exact ⟨p, vs, e, hp, h.all r⟩) he
end PF
namespace L2
open PySem PySem.Spec PyProof.Rows ClX
section
variable {X : Cx} {pins : List (Addr × Obj)} {σ : St} {H : Hp} {s : Shared} {C g p : Addr} {mc : Value} {m : Str} {o e : Expr} {es : List Expr} {ta : TE} {t : TA} {pos apos : Pos} {pl : Sem Bool}
theorem run_cmA {CX : CXT} {k : Nat} {q : Addr} {sp : Sp} {E : XK} {Q : VK} {us : List Value} {vs : List V} (F : FnR X.prog X.w X.K X.mg X.base CX k g sp) (hr : Room k X.A) (hx : PassesAt CX X σ E) (I : Inv X ((q, PySem.W.methodObj (.ref g) (.ref C)) :: pins) σ H s)
    (r : Vals vs us) (h : sp (.ref C :: vs) H Q E) : wpAny (model X.prog X.w) X.A (call (.ref q) us) (EP X pins σ Q) X.xe s := by
  have z : wpAny (model X.prog X.w) X.A (call (.ref q) us) (EP X ((q, PySem.W.methodObj (.ref g) (.ref C)) :: pins) σ Q) X.xe s :=
    wpAny_call (PySem.W.method_call (pin_at I) (run_fnRA (us := .ref C :: us) (vs := .ref C :: vs) F hr hx I (.cons rfl r) h))
  exact thn z fun _ _ y => unpinE y
def tCMethX (C : Addr) (sp : Sp) (E : St → XK) (ta : TE) (t : TA) : TE := fun σ H Q => tCMeth C sp (E σ) ta t σ H Q
theorem pe_cmethA {CX : CXT} {k : Nat} {sp : Sp} {E : St → XK} (he : PE X o ta) (r : CRead X.K C mc) (c : CMet X.K C mc m p g) (F : FnR X.prog X.w X.K X.mg X.base CX k g sp) (hr : Room k X.A) (hx : ∀ σ, PassesAt CX X σ (E σ)) (ha : PA X (e :: es) t)
    (hst : starEach (e :: es) X.env = (false, eval e X.env) :: starEach es X.env := by rfl) (hpl : (backTo pos (starEach es X.env)).any (·.1) = false := by rfl)
    (ht : eval (.Call (.Attribute o m apos) (e :: es) [] pos) X.env = (do
      let ov ← eval o X.env
      standAt apos.atName
      let (f, first) ← holding [ov] (getMethod ov m pl)
      callWith pos f first (backTo pos (starEach (e :: es) X.env)) (backToKw pos (keywordEach [] X.env))) := by rfl) :
    PE X (.Call (.Attribute o m apos) (e :: es) [] pos) (tCMethX C sp E ta t) := by
  refine ⟨fun pins s σ H Q I h => ?_⟩
  refine PySem.W.methodCall_KW (pl := pl) (thn (he.run pins s σ H _ I h) fun u s1 ⟨x, H1, I1, rx, ex, q⟩ => ?_) ht
  subst ex
  obtain rfl : u = Value.ref C := rx
  refine getmethcm_ok I1 r c fun s2 I2 => ?_
  refine callwith_cm I2 (base_none I1 (Nat.le_refl _)) c.fi (thn (ha.run pos _ s2 σ H1 _ I2 q) fun us s3 ⟨vs, H2, I3, rv, q2⟩ => ⟨⟨pin_at I3, I3.kIn⟩, ?_⟩) hst hpl
  exact run_cmA F hr (hx σ) I3 rv q2
end
end L2
namespace PF
open PySem PySem.Spec PyProof.Rows L2 SlX
structure GCmX (P : Program) (w : World) (K : PySem.W.Frag) (mg : Str → Option Value) (base : Heap) (C : Addr) (m : Str) (k : Nat) (sp : Sp) : Prop where
  ex : ∃ mc p g, ClX.CRead K C mc ∧ ClX.CMet K C mc m p g ∧ FnR P w K mg base (L2.CX P w) k g sp
section
variable {X : Cx} {C : Addr} {m : Str} {k : Nat} {sp : Sp} {o e : Expr} {es : List Expr} {ta : TE} {t : TA} {pos apos : Pos} {pl : Sem Bool} {W : WX}
theorem pe_cmX (tk : Takes X W) (G : GCmX X.prog X.w X.K X.mg X.base C m k sp) (hr : Room k X.A) (he : PE X o ta) (ha : PA X (e :: es) t)
    (hst : starEach (e :: es) X.env = (false, eval e X.env) :: starEach es X.env := by rfl) (hpl : (backTo pos (starEach es X.env)).any (·.1) = false := by rfl)
    (ht : eval (.Call (.Attribute o m apos) (e :: es) [] pos) X.env = (do
      let ov ← eval o X.env
      standAt apos.atName
      let (f, first) ← holding [ov] (getMethod ov m pl)
      callWith pos f first (backTo pos (starEach (e :: es) X.env)) (backToKw pos (keywordEach [] X.env))) := by rfl) : PE X (.Call (.Attribute o m apos) (e :: es) [] pos) (tCMethX C sp (WE W) ta t) := by
  obtain ⟨mc, p, g, h1, h2, h3⟩ := G.ex
  exact pe_cmethA he h1 h2 h3 hr (fun σ => passAt tk σ) ha hst hpl ht
end
section
variable {Γ α β γ : Type} {μ : Md} {E : EV Γ} {C : Addr} {R : Rp γ} {mg : Str → Option Value} {fl : Str → Option Str} {XE : XK} {K : PySem.W.Frag}
theorem e_cmX {S : RA β} {m : Unit × β → M γ} {W : WX} {t : TA} {mb : Γ → M β} (hW : ∀ {p : Option Addr} {H0 F H : Hp} {σ : L2.St} {ρ : Γ}, E.r p H0 F H σ ρ → WE W σ = XE)
    (hb : SA (mdF K mg fl XE) E S t mb) : SE (mdF K mg fl XE) E R (tCMethX C (spOfF K mg fl (aCons (rCls C) S) R m) (WE W) (tC (.ref C)) t) fun ρ => (mb ρ).bind fun b => (m ((), b)).still := fun k F H σ ρ c Q w e q =>
  ⟨rfl, hb k F H σ ρ c _ w e (wp_imp q fun b c2 q ws F2 H2 x2 w2 r2 => by
    show spOfF K mg fl (aCons (rCls C) S) R m (V.ref C :: ws) H2 Q (WE W σ)
    rw [hW e.r]
    exact ⟨F2, ((), b), w2.sub, ⟨_, ws, rfl, rfl, r2⟩, (m ((), b)).mono 0 (fun b _ z v F' H' x r => z v F' H' (x2.trans (w2.call x).1) (w2.call x).2 r) (fun er z cls d F' H' x hc => z cls d F' H' (w2.ext.trans (w2.call x).1) hc) q⟩)⟩
theorem e_callR {S : RA α} {ta : TA} {ma : Γ → M α} {m : α → M γ} (ha : SA μ E S ta ma) : SE μ E R (tCall (spOf S R m) [] E0 ta) fun ρ => (ma ρ).bind fun a => ((m a).safe).still := fun k F H σ ρ c Q w e h =>
  ha k F H σ ρ c _ w e (wp_imp h fun a c1 q vs F1 H1 x1 w1 r1 => by
    show spOf S R m (vs ++ []) H1 Q E0
    rw [List.append_nil]
    exact ⟨F1, a, w1.sub, r1, (m a).mono 0 (fun b _ z v F' H' x r => z v F' H' (x1.trans (w1.call x).1) (w1.call x).2 r) (fun _ z => False.elim z) q⟩)
end
def isNoneD : PyData → Bool
  | .none => true
  | _ => false
theorem dpE_non {K : PySem.W.Frag} {F : Hp} {v : V} {d : PyData} (h : DpE K F v d) : decide (v = .non) = isNoneD d := by
  rcases h with h | ⟨rfl, h⟩
  · cases h <;> first | rfl | exact decide_eq_false (fun z => by cases z)
  · obtain ⟨p, e, _⟩ := h
    rw [e]
    exact decide_eq_false (fun z => by cases z)
theorem o_isNDt {μ : Md} {K : PySem.W.Frag} : OpS μ (fun x y H Q => y = .non ∧ Q (.bl (decide (x = .non))) H) (rDt K) rNon rBl fun a _ => .ret (isNoneD a) := fun k F H c x y a b Q w hx hy q => by
  refine ⟨hy, VP.now w q ?_⟩
  show V.bl _ = V.bl _
  rw [dpE_non hx]
def spIsRootN : Sp := fun vs H Q _ => vs = [.non] ∧ Q (.bl false) H
def rootO : Option Int → Bool
  | none => false
  | some a => isRootB a
def spIsRootO : Sp := fun vs H Q _ => ∃ o : Option Int, ((o = none ∧ vs = [.non]) ∨ ∃ a, o = some a ∧ vs = [.int a]) ∧ ∀ H', Same H H' → Q (.bl (rootO o)) H'
theorem un_is_root_O : ∀ vs H Q X, spIsRootO vs H Q X → spOr spIsRoot spIsRootN vs H Q X := by
  rintro vs H Q X ⟨o, h, q⟩
  rcases h with ⟨rfl, rfl⟩ | ⟨a, rfl, rfl⟩
  · exact .inr ⟨rfl, q H (Same.refl H)⟩
  · exact .inl ⟨a, rfl, q⟩
section
variable {P : Program} {w : World} {K : PySem.W.Frag} {mg : Str → Option Value} {base : Heap} {f CN CF : Addr} {fd : FuncData}
theorem ok_is_rootN (F : Fun K "is_root" "is_root" (topS 14) f fd) (fr : Free mg) (g_MAX_ROOT : ∃ tk, mg "MAX_ROOT" = some (.int 999 tk)) (g_LEAST_ROOT : ∃ tk, mg "LEAST_ROOT" = some (.int 2 tk))
    (G_whole_root : GD P w K mg base "whole_root" 2 spRoot) (G_is_whole : GD P w K mg base "is_whole" 2 (spIsWhole K)) : FnOk P w K mg base CX0 3 f fd ["value"] spIsRootN := by
  obtain ⟨tk1, g_MAX_ROOT⟩ := g_MAX_ROOT
  obtain ⟨tk2, g_LEAST_ROOT⟩ := g_LEAST_ROOT
  refine F.ok sc_is_root (fun vs H Q E ⟨e, _⟩ => by rw [e]; rfl) (fun cdv A outer s H vs Q E hr h => ⟨_, (pss_cons (ps_if (PW.pt (pw_or (pt_not (pt_val (pe_c1 G_is_whole (hr.mono (by decide)) (pa_cons (pv 0) pa_nil)))) (pw_or1 (pt_not (pt_chain op_le op_le (pe_glob (v := .int 2) rfl g_LEAST_ROOT ⟨_, rfl⟩) (pv 0) (pe_glob (v := .int 999) rfl g_MAX_ROOT ⟨_, rfl⟩)))))) (pss_one (ps_ret pe_bl)) pss_nil)
  (pss_one (ps_ret (pe_callB (cr_all rfl) (by rfl) fr.b_all (by decide +kernel) (pa_cons (pe_lc (own := [("side", 1)]) (by rfl) sc_is_root.nd (pi_range2 (by rfl) fr.b_range (pa_cons pe_int (pa_cons (pe_op op_add (pe_c1 G_whole_root (hr.mono (by decide)) (pa_cons (pv 0) pa_nil)) pe_int) pa_nil))) (blkOk_by (own := [("side", 1)]) (N := ["value", "side"]) (sc := defScope (topS 14)) (by decide +kernel)) (fun _ _ _ _ _ => (pg_name (i := 1) sc_is_root.nd rfl (by first | exact Or.inl rfl | exact Or.inr rfl))) (fun _ _ _ _ _ => pts_nil) (fun _ _ _ _ _ => (pe_cmpR op_ne (pe_op op_modN (pv 0) (pe_op op_mulX (pv 1) (pv 1))) pe_int (nomark _)))) pa_nil))))), ?_⟩)
  obtain ⟨rfl, q⟩ := h
  exact ⟨_, rfl, .non, _, false, rfl, .x (.base .non), kit_ty (by decide +kernel), (fun z => by cases z), false, rfl, q⟩
end
section
variable {Γ : Type} {E : EV Γ}
theorem e_isRootO {ta : TE} {ma : Γ → M (Option Int)} (ha : SE md0 E (rOpt rInt) ta ma) : SE md0 E rBl (tCall spIsRootO [] E0 (tCons ta tNil)) fun ρ => (ma ρ).bind fun i => .ret (rootO i) := fun k F H σ ρ c Q w e h =>
  ha k F H σ ρ c _ w e (wp_imp h fun i c1 q v F1 H1 x1 w1 r1 => by
    refine ⟨i, ?_, fun H' s => VP.same w1 (VP.ext x1 q) s rfl⟩
    rcases r1 with ⟨rfl, rfl⟩ | ⟨a, rfl, r, _⟩
    · exact .inl ⟨rfl, rfl⟩
    · exact .inr ⟨a, rfl, by rw [show v = .int a from r]; rfl⟩)
end
end PF
set_option maxHeartbeats 400000
namespace PF
open PySem PySem.Spec PyProof.Rows L2 SlX
structure GMK (P : Program) (w : World) (K : PySem.W.Frag) (mg : Str → Option Value) (base : Heap) (x : Str) (C : Addr) (k n : Nat) (ks : List Str) (sp : Sp) : Prop where
  ex : ∃ f fd ps g, mg x = some (.ref C) ∧ Mk K C f ∧ KBn K fd ps (n + 1) ks g (fun vs zs => vs ++ zs) ∧ FnOk P w K mg base CX0 k f fd ps sp
theorem pe_mk {X : Cx} {k n : Nat} {ks : List Str} {sp : Sp} {x : Str} {C : Addr} {p pos : Pos} {e : Expr} {es : List Expr} {kws : List Keyword} {t tk : TA} (G : GMK X.prog X.w X.K X.mg X.base x C k n ks sp) (hr : Room (k + 1) X.A) (ha : PA X (e :: es) t) (hkw : PK X kws tk) (gl : Gl X x := by rfl)
    (hall : (backToKw pos (keywordEach kws X.env)).all (·.1.isSome) = true := by rfl) (hks : (backToKw pos (keywordEach kws X.env)).filterMap (·.1) = ks := by rfl)
    (hdb : (x == ("__debug__" : Str)) = false := by decide) (he : starEach (e :: es) X.env = (false, eval e X.env) :: starEach es X.env := by rfl)
    (hpl : ((backTo pos (starEach (e :: es) X.env)).any (·.1) || (backToKw pos (keywordEach kws X.env)).any (·.1.isNone)) = false := by rfl) : PE X (.Call (.Name x p) (e :: es) kws pos) (tMakeN C n ks.length sp (fun vs zs => vs ++ zs) E0 t tk) := by
  obtain ⟨f, fd, ps, g, h1, h2, h3, h4⟩ := G.ex
  exact pe_makeN h2 h4 hr gl h1 h3 pass0 ha hkw hall hks hdb he hpl
end PF
set_option maxHeartbeats 1000000
namespace PF
open PySem PySem.Spec PyProof.Rows L2 SlX
end PF
set_option maxHeartbeats 4000000
namespace PF2
open PF PySem PySem.Spec PyProof.Rows L2 SlX
section
variable {P : Program} {w : World} {K : PySem.W.Frag} {mg : Str → Option Value} {base : Heap} {f CO CN CF CE : Addr} {fd : FuncData}
def flE (x : Str) : Option Str := if x = "ParseError" then some "index" else none
theorem sc_integer_in : FnScope ["text", "figures", "figure"] ["text"] (defScope (topS 22)) := ⟨rfl, rfl, rfl, by decide +kernel, rfl, by decide +kernel, by decide +kernel⟩
noncomputable def b_integer_in (ρ : (Str × (Unit × (Unit × Unit)))) : M (Ct Unit Unit (Option Int)) := (M.thn (M.bind (M.bind (M.bind (M.bind (M.ret ρ.1) fun x2 => M.bind (M.ret (none : Option Int)) fun x3 => M.bind (M.bind (M.ret (1 : Int)) fun x1 => M.ret (some x1)) fun x4 => M.need (Str.length x2 ≤ sizeLine) (M.ret (cutS x2 x3 x4))) fun x5 => M.bind (M.ret ("-" : Str)) fun x6 => M.ret (decide (x5 = x6))) fun x11 => M.ifb x11 (M.bind (M.ret ρ.1) fun x8 => M.bind (M.bind (M.ret (1 : Int)) fun x7 => M.ret (some x7)) fun x9 => M.bind (M.ret (none : Option Int)) fun x10 => M.need (Str.length x8 ≤ sizeLine) (M.ret (cutS x8 x9 x10))) (M.ret ρ.1)) fun x12 => M.ret (.nx (ρ.1, x12, ρ.2.2))) fun ρ => (M.thn (M.bind (M.bind (M.bind (M.bind (M.ret (1 : Int)) fun x19 => M.bind (M.bind (M.bind (M.ret ρ.2.1) fun x13 => M.bind (M.ret ()) fun x14 => M.ret (x13, x14)) fun r15 => M.need (Str.length r15.1 ≤ sizeLine) (M.ret (Str.length r15.1 : Int))) fun x20 => M.bind (M.ret (decide (x19 ≤ x20))) fun (k21 : Bool) => M.ifb k21 (M.bind (M.ret (1000 : Int)) fun x22 => M.ret (decide (x20 ≤ x22))) (M.ret false)) fun x23 => M.ret (!x23)) fun x36 => M.ifb x36 (M.ret true) (M.bind (M.bind (M.bind (M.bind (M.bind (M.ret ρ.2.1) fun x24 => M.ret (PF.signs x24)) fun l28 => M.need (l28.length ≤ 1000000) (M.lcM l28 fun (a29 : Str) => M.bind ((fun ρ => (M.ret true)) (ρ.1, ρ.2.1, a29, ρ.2.2.2)) fun (b30 : Bool) => M.ifb b30 (M.bind ((fun ρ => (M.bind (M.ret ρ.2.2.1) fun x25 => M.bind (M.ret ("0123456789" : Str)) fun x26 => M.ret (inStr x25 x26))) (ρ.1, ρ.2.1, a29, ρ.2.2.2)) fun (y31 : Bool) => M.ret (some y31)) (M.ret none))) fun x32 => M.bind (M.ret ()) fun x33 => M.ret (x32, x33)) fun r34 => M.ret (r34.1.all id)) fun x35 => M.ret (!x35))) fun x39 => M.ifb x39 (M.bind (M.bind (M.ret ()) fun x37 => M.ret (none : (Option Int))) fun x38 => M.ret (.rt x38)) (M.ret (.nx ρ))) fun ρ => (M.bind (M.bind (M.bind (M.bind (M.ret ρ.1) fun x40 => M.bind (M.ret ()) fun x41 => M.ret (x40, x41)) fun r42 => M.need (Str.length r42.1 ≤ sizeLine) (M.the (PySem.intText? r42.1))) fun x43 => M.ret (some x43)) fun x44 => M.ret (.rt x44))))
noncomputable def m_integer_in (a : (Str × Unit)) : M (Option Int) := M.fin (b_integer_in (a.1, ((), ((), ()))))
theorem ok_integer_in (F : Fun K "integer_in" "integer_in" (topS 22) f fd) (fr : Free mg) (g_MOST_FIGURES : ∃ tk, mg "MOST_FIGURES" = some (.int 1000 tk)) (g_FIGURES : ∃ tk, mg "FIGURES" = some (.str "0123456789" tk)) (yd : PySem.W.nsIn K cStatics "sys.int_max_str_digits" = some none) : FnOk P w K mg base CX0 2 f fd ["text"] (spOf (aCons rStr aNil) (rOpt rInt) m_integer_in) := by
  refine F.ok sc_integer_in (fun vs H Q E h => spOf_len h) (fun cdv A outer s H vs Q E hr h => ⟨_, (pss_cons (ps_set (i := 1) sc_integer_in.nd rfl (by first | exact Or.inl rfl | exact Or.inr rfl) (pe_ifExp (pt_cmpR op_eq (pe_slice sl_str (pv 0) po_none (po_some pe_int)) pe_str (nomark _)) (pe_slice sl_str (pv 0) (po_some pe_int) po_none) (pv 0)))
  (pss_cons (ps_if (PW.pt (pw_or (pt_not (pt_chain op_le op_le pe_int (pe_callB call_len_str (by rfl) fr.b_len (by decide +kernel) (pa_cons (pv 1) pa_nil)) (pe_glob (v := .int 1000) rfl g_MOST_FIGURES.choose_spec ⟨_, rfl⟩))) (pw_or1 (pt_not (pt_val (pe_callB (cr_all rfl) (by rfl) fr.b_all (by decide +kernel) (pa_cons (pe_lc (own := [("figure", 2)]) (by rfl) sc_integer_in.nd  (pi_str (pv 1)) (blkOk_by (own := [("figure", 2)]) (N := ["text", "figures", "figure"]) (sc := defScope (topS 22)) (by decide +kernel)) (fun _ _ _ _ _ => (pg_name (i := 2) sc_integer_in.nd rfl (by first | exact Or.inl rfl | exact Or.inr rfl))) (fun _ _ _ _ _ => pts_nil) (fun _ _ _ _ _ => (pe_cmpR op_in_str (pv 2) (pe_glob (v := .str "0123456789") rfl g_FIGURES.choose_spec ⟨_, rfl⟩) (by rfl)))) pa_nil))))))) (pss_one (ps_ret pe_non)) pss_nil)
  (pss_one (ps_ret (pe_callTy (call_int_strB yd) (by rfl) fr.b_int (by decide +kernel) (pa_cons (pv 0) pa_nil)))))), ?_⟩)
  refine fn_body (X := E) (S := (aCons rStr aNil)) (E' := eNil) (R := (rOpt rInt)) (st_par (st_un (st_un st_nil))) rfl (s_seq (s_asg (e_if (t_of (e_op (o_eq sc_str) (e_sl sl_S (e_var get0) so_none (so_some e_int)) e_str)) (e_sl sl_S (e_var get0) (so_some e_int) so_none) (e_var get0)) (g_name pu1))
  (s_seq (s_if (t_or (t_not (t_of (e_chain (o_ib fun _ _ => rfl) (o_ib fun _ _ => rfl) e_int (e_ca c_lenS (a_cons (e_var gt1) a_nil)) e_int))) (t_not (t_b (e_ca c_all (a_cons (SN.se (n_lc (i_str (e_var gt1)) (gw_name pu2) t_yes (e_op o_inStr (e_var gt2) e_str))) a_nil))))) (s_ret (e_coeX (Rb := (rOpt rInt)) coe_none e_non)) s_nil)
  (s_ret (e_coeX (coe_some nn_int) (e_ca c_intSB (a_cons (e_var get0) a_nil)))))) ?_
  exact h
theorem sc_parts_in : FnScope ["ahead", "at"] ["ahead"] (defScope (topS 23)) := ⟨rfl, rfl, rfl, by decide +kernel, rfl, by decide +kernel, by decide +kernel⟩
noncomputable def b_parts_in (ρ : (Str × (Unit × Unit))) : M (Ct Unit Unit (Str × (Str × Unit))) := (M.thn (M.bind (M.bind (M.ret ρ.1) fun x45 => M.bind (M.ret ("+" : Str)) fun x46 => M.ret (Txt.rfind x45 x46)) fun x47 => M.ret (.nx (ρ.1, x47, ρ.2.2))) fun ρ => (M.thn (M.bind (M.bind (M.ret ρ.2.1) fun x48 => M.bind (M.ret (0 : Int)) fun x49 => M.ret (decide (x48 < x49))) fun x75 => M.ifb x75 (M.thn (M.bind (M.bind (M.ret ρ.1) fun x50 => M.bind (M.ret ("-" : Str)) fun x51 => M.ret (Txt.rfind x50 x51)) fun x52 => M.ret (.nx (ρ.1, x52, ρ.2.2))) fun ρ => (M.bind (M.bind (M.bind (M.ret ρ.2.1) fun x53 => M.bind (M.ret (0 : Int)) fun x54 => M.ret (decide (x54 < x53))) fun x73 => M.ifb x73 (M.bind (M.bind (M.ret ρ.1) fun x56 => M.bind (M.ret (none : Option Int)) fun x57 => M.bind (M.bind (M.ret ρ.2.1) fun x55 => M.ret (some x55)) fun x58 => M.need (Str.length x56 ≤ sizeLine) (M.ret (cutS x56 x57 x58))) fun x65 => M.bind (M.bind (M.bind (M.ret ρ.1) fun x60 => M.bind (M.bind (M.ret ρ.2.1) fun x59 => M.ret (some x59)) fun x61 => M.bind (M.ret (none : Option Int)) fun x62 => M.need (Str.length x60 ≤ sizeLine) (M.ret (cutS x60 x61 x62))) fun x63 => M.bind (M.ret ()) fun x64 => M.ret (x63, x64)) fun x66 => M.ret (x65, x66)) (M.bind (M.ret ("" : Str)) fun x70 => M.bind (M.bind (M.ret ρ.1) fun x68 => M.bind (M.ret ()) fun x69 => M.ret (x68, x69)) fun x71 => M.ret (x70, x71))) fun x74 => M.ret (.rt x74))) (M.ret (.nx ρ))) fun ρ => (M.bind (M.bind (M.bind (M.ret ρ.1) fun x77 => M.bind (M.ret (none : Option Int)) fun x78 => M.bind (M.bind (M.ret ρ.2.1) fun x76 => M.ret (some x76)) fun x79 => M.need (Str.length x77 ≤ sizeLine) (M.ret (cutS x77 x78 x79))) fun x88 => M.bind (M.bind (M.bind (M.ret ρ.1) fun x83 => M.bind (M.bind (M.bind (M.ret ρ.2.1) fun x80 => M.bind (M.ret (1 : Int)) fun x81 => M.ret (x80 + x81)) fun x82 => M.ret (some x82)) fun x84 => M.bind (M.ret (none : Option Int)) fun x85 => M.need (Str.length x83 ≤ sizeLine) (M.ret (cutS x83 x84 x85))) fun x86 => M.bind (M.ret ()) fun x87 => M.ret (x86, x87)) fun x89 => M.ret (x88, x89)) fun x91 => M.ret (.rt x91))))
noncomputable def m_parts_in (a : (Str × Unit)) : M (Str × (Str × Unit)) := M.fin (b_parts_in (a.1, ((), ())))
theorem ok_parts_in (F : Fun K "parts_in" "parts_in" (topS 23) f fd)  : FnOk P w K mg base CX0 2 f fd ["ahead"] (spOf (aCons rStr aNil) (rTx K (aCons rStr (aCons rStr aNil))) m_parts_in) := by
  refine F.ok sc_parts_in (fun vs H Q E h => spOf_len h) (fun cdv A outer s H vs Q E hr h => ⟨_, (pss_cons (ps_set (i := 1) sc_parts_in.nd rfl (by first | exact Or.inl rfl | exact Or.inr rfl) (pe_m1 PySem.F.slot_str_rfind PySem.F.type_str_rfind mt_rfind (pv 0) pe_str))
  (pss_cons (ps_if (pt_cmpR op_lt (pv 1) pe_int (nomark _)) (pss_cons (ps_set (i := 1) sc_parts_in.nd rfl (by first | exact Or.inl rfl | exact Or.inr rfl) (pe_m1 PySem.F.slot_str_rfind PySem.F.type_str_rfind mt_rfind (pv 0) pe_str))
  (pss_one (ps_ret (pe_ifExp (pt_cmpR op_gt (pv 1) pe_int (nomark _)) (pe_tup (pa_cons (pe_slice sl_str (pv 0) po_none (po_some (pv 1))) (pa_cons (pe_slice sl_str (pv 0) (po_some (pv 1)) po_none) pa_nil))) (pe_tup (pa_cons pe_str (pa_cons (pv 0) pa_nil))))))) pss_nil)
  (pss_one (ps_ret (pe_tup (pa_cons (pe_slice sl_str (pv 0) po_none (po_some (pv 1))) (pa_cons (pe_slice sl_str (pv 0) (po_some (pe_op op_add (pv 1) pe_int)) po_none) pa_nil))))))), ?_⟩)
  refine fn_body (X := E) (S := (aCons rStr aNil)) (E' := eNil) (R := (rTx K (aCons rStr (aCons rStr aNil)))) (st_par (st_un st_nil)) rfl (s_seq (s_asg (e_rfind (e_var get0) e_str) (g_name pu1))
  (s_seq (s_if (t_of (e_op (o_ib fun _ _ => rfl) (e_var gt1) e_int)) (s_seq (s_asg (e_rfind (e_var get0) e_str) (g_name pu1))
  (s_ret (e_if (t_of (e_op (o_ib fun _ _ => rfl) (e_var gt1) e_int)) (e_tup (a_cons (e_sl sl_S (e_var get0) so_none (so_some (e_var gt1))) (a_cons (e_sl sl_S (e_var get0) (so_some (e_var gt1)) so_none) a_nil)) (le_n 2)) (e_tup (a_cons e_str (a_cons (e_var get0) a_nil)) (le_n 2))))) s_nil)
  (s_ret (e_tup (a_cons (e_sl sl_S (e_var get0) so_none (so_some (e_var gt1))) (a_cons (e_sl sl_S (e_var get0) (so_some (e_op (o_ii fun _ _ => rfl) (e_var gt1) e_int)) so_none) a_nil)) (le_n 2))))) ?_
  exact h
theorem sc_number_in : FnScope ["text", "body", "stroke", "under", "bottom", "ahead", "letter", "behind", "first", "last", "top", "part", "root"] ["text"] (defScope (topS 24)) := ⟨rfl, rfl, rfl, by decide +kernel, rfl, by decide +kernel, by decide +kernel⟩
noncomputable def b_number_in (ρ : (Str × (Unit × (Unit × (Unit × (Unit × (Unit × (Unit × (Unit × (Unit × (Unit × (Unit × (Unit × (Unit × Unit)))))))))))))) : M (Ct Unit Unit (Option Nm)) := (M.thn (M.bind (M.bind (M.ret ρ.1) fun x92 => M.bind (M.ret ("/" : Str)) fun x93 => M.need ((Str.length x93 == 0) = false ∧ Str.length x92 ≤ sizeLine) (M.ret ((Txt.partition x92 x93).1, (Txt.partition x92 x93).2.1, (Txt.partition x92 x93).2.2, ()))) fun x94 => M.ret (.nx (ρ.1, x94.1, x94.2.1, x94.2.2.1, ρ.2.2.2.2.1, ρ.2.2.2.2.2.1, ρ.2.2.2.2.2.2.1, ρ.2.2.2.2.2.2.2.1, ρ.2.2.2.2.2.2.2.2.1, ρ.2.2.2.2.2.2.2.2.2.1, ρ.2.2.2.2.2.2.2.2.2.2.1, ρ.2.2.2.2.2.2.2.2.2.2.2.1, ρ.2.2.2.2.2.2.2.2.2.2.2.2.1, ρ.2.2.2.2.2.2.2.2.2.2.2.2.2))) fun ρ => (M.thn (M.bind (M.bind (M.bind (M.ret ρ.2.2.1) fun x95 => M.bind (M.ret ("" : Str)) fun x96 => M.ret (!decide (x95 = x96))) fun x101 => M.ifb x101 (M.bind (M.bind (M.ret ρ.2.2.2.1) fun x97 => M.bind (M.ret ()) fun x98 => M.ret (x97, x98)) fun r99 => M.still (m_integer_in r99)) (M.bind (M.ret (1 : Int)) fun x100 => M.ret (some x100))) fun x102 => M.ret (.nx (ρ.1, ρ.2.1, ρ.2.2.1, ρ.2.2.2.1, x102, ρ.2.2.2.2.2))) fun ρ => (M.thn (M.bind (M.bind (M.bind (M.bind (M.ret ρ.2.1) fun x104 => M.bind (M.ret (none : Option Int)) fun x105 => M.bind (M.bind (M.ret (1 : Int)) fun x103 => M.ret (some x103)) fun x106 => M.need (Str.length x104 ≤ sizeLine) (M.ret (cutS x104 x105 x106))) fun x107 => M.bind (M.ret ("(" : Str)) fun x108 => M.ret (decide (x107 = x108))) fun x116 => M.ifb x116 (M.bind (M.bind (M.ret ρ.2.1) fun x111 => M.bind (M.bind (M.bind (M.ret (1 : Int)) fun x109 => M.ret (-x109)) fun x110 => M.ret (some x110)) fun x112 => M.bind (M.ret (none : Option Int)) fun x113 => M.need (Str.length x111 ≤ sizeLine) (M.ret (cutS x111 x112 x113))) fun x114 => M.bind (M.ret (")" : Str)) fun x115 => M.ret (decide (x114 = x115))) (M.ret false)) fun x124 => M.ifb x124 (M.bind (M.bind (M.ret ρ.2.1) fun x120 => M.bind (M.bind (M.ret (1 : Int)) fun x117 => M.ret (some x117)) fun x121 => M.bind (M.bind (M.bind (M.ret (1 : Int)) fun x118 => M.ret (-x118)) fun x119 => M.ret (some x119)) fun x122 => M.need (Str.length x120 ≤ sizeLine) (M.ret (cutS x120 x121 x122))) fun x123 => M.ret (.nx (ρ.1, x123, ρ.2.2))) (M.ret (.nx ρ))) fun ρ => (M.thn (M.bind (M.bind (M.ret ρ.2.1) fun x125 => M.bind (M.ret ("r" : Str)) fun x126 => M.need ((Str.length x126 == 0) = false ∧ Str.length x125 ≤ sizeLine) (M.ret ((Txt.partition x125 x126).1, (Txt.partition x125 x126).2.1, (Txt.partition x125 x126).2.2, ()))) fun x127 => M.ret (.nx (ρ.1, ρ.2.1, ρ.2.2.1, ρ.2.2.2.1, ρ.2.2.2.2.1, x127.1, x127.2.1, x127.2.2.1, ρ.2.2.2.2.2.2.2.2.1, ρ.2.2.2.2.2.2.2.2.2.1, ρ.2.2.2.2.2.2.2.2.2.2.1, ρ.2.2.2.2.2.2.2.2.2.2.2.1, ρ.2.2.2.2.2.2.2.2.2.2.2.2.1, ρ.2.2.2.2.2.2.2.2.2.2.2.2.2))) fun ρ => (M.thn (M.bind (M.bind (M.bind (M.ret ρ.2.2.2.2.2.2.1) fun x128 => M.bind (M.ret ("" : Str)) fun x129 => M.ret (!decide (x128 = x129))) fun x138 => M.ifb x138 (M.bind (M.bind (M.ret ρ.2.2.2.2.2.1) fun x130 => M.bind (M.ret ()) fun x131 => M.ret (x130, x131)) fun r132 => M.still (m_parts_in r132)) (M.bind (M.ret ρ.2.2.2.2.2.1) fun x135 => M.bind (M.bind (M.ret ("0" : Str)) fun x133 => M.bind (M.ret ()) fun x134 => M.ret (x133, x134)) fun x136 => M.ret (x135, x136))) fun x139 => M.ret (.nx (ρ.1, ρ.2.1, ρ.2.2.1, ρ.2.2.2.1, ρ.2.2.2.2.1, ρ.2.2.2.2.2.1, ρ.2.2.2.2.2.2.1, ρ.2.2.2.2.2.2.2.1, x139.1, x139.2.1, ρ.2.2.2.2.2.2.2.2.2.2.1, ρ.2.2.2.2.2.2.2.2.2.2.2.1, ρ.2.2.2.2.2.2.2.2.2.2.2.2.1, ρ.2.2.2.2.2.2.2.2.2.2.2.2.2))) fun ρ => (M.thn (M.bind (M.bind (M.bind (M.ret ρ.2.2.2.2.2.2.2.2.1) fun x140 => M.bind (M.ret ("" : Str)) fun x141 => M.ret (!decide (x140 = x141))) fun x146 => M.ifb x146 (M.bind (M.bind (M.ret ρ.2.2.2.2.2.2.2.2.1) fun x142 => M.bind (M.ret ()) fun x143 => M.ret (x142, x143)) fun r144 => M.still (m_integer_in r144)) (M.bind (M.ret (0 : Int)) fun x145 => M.ret (some x145))) fun x150 => M.bind (M.bind (M.bind (M.ret ρ.2.2.2.2.2.2.2.2.2.1) fun x147 => M.bind (M.ret ()) fun x148 => M.ret (x147, x148)) fun r149 => M.still (m_integer_in r149)) fun x151 => M.ret (.nx (ρ.1, ρ.2.1, ρ.2.2.1, ρ.2.2.2.1, ρ.2.2.2.2.1, ρ.2.2.2.2.2.1, ρ.2.2.2.2.2.2.1, ρ.2.2.2.2.2.2.2.1, ρ.2.2.2.2.2.2.2.2.1, ρ.2.2.2.2.2.2.2.2.2.1, x150, x151, ρ.2.2.2.2.2.2.2.2.2.2.2.2.1, ρ.2.2.2.2.2.2.2.2.2.2.2.2.2))) fun ρ => (M.thn (M.bind (M.bind (M.bind (M.ret ρ.2.2.2.2.2.2.1) fun x152 => M.bind (M.ret ("" : Str)) fun x153 => M.ret (!decide (x152 = x153))) fun x158 => M.ifb x158 (M.bind (M.bind (M.ret ρ.2.2.2.2.2.2.2.1) fun x154 => M.bind (M.ret ()) fun x155 => M.ret (x154, x155)) fun r156 => M.still (m_integer_in r156)) (M.bind (M.ret (0 : Int)) fun x157 => M.ret (some x157))) fun x159 => M.ret (.nx (ρ.1, ρ.2.1, ρ.2.2.1, ρ.2.2.2.1, ρ.2.2.2.2.1, ρ.2.2.2.2.2.1, ρ.2.2.2.2.2.2.1, ρ.2.2.2.2.2.2.2.1, ρ.2.2.2.2.2.2.2.2.1, ρ.2.2.2.2.2.2.2.2.2.1, ρ.2.2.2.2.2.2.2.2.2.2.1, ρ.2.2.2.2.2.2.2.2.2.2.2.1, x159, ρ.2.2.2.2.2.2.2.2.2.2.2.2.2))) fun ρ => (M.thn (M.bind (M.bind (M.bind (M.ret ρ.2.2.2.2.1) fun x160 => M.bind (M.ret ()) fun x161 => M.ret (Option.isNone x160)) fun x171 => M.ifb x171 (M.ret true) (M.bind (M.bind (M.bind (M.ret ρ.2.2.2.2.1) fun x162 => M.the (id x162)) fun x163 => M.bind (M.ret (0 : Int)) fun x164 => M.ret (decide (x163 = x164))) fun x170 => M.ifb x170 (M.ret true) (M.bind (M.bind (M.ret ρ.2.2.2.2.2.2.2.2.2.2.1) fun x165 => M.bind (M.ret ()) fun x166 => M.ret (Option.isNone x165)) fun x169 => M.ifb x169 (M.ret true) (M.bind (M.ret ρ.2.2.2.2.2.2.2.2.2.2.2.1) fun x167 => M.bind (M.ret ()) fun x168 => M.ret (Option.isNone x167))))) fun x174 => M.ifb x174 (M.bind (M.bind (M.ret ()) fun x172 => M.ret (none : (Option Nm))) fun x173 => M.ret (.rt x173)) (M.ret (.nx ρ))) fun ρ => (M.thn (M.bind (M.bind (M.bind (M.ret ρ.2.2.2.2.2.2.1) fun x175 => M.bind (M.ret ("" : Str)) fun x176 => M.ret (!decide (x175 = x176))) fun x179 => M.ifb x179 (M.bind (M.bind (M.ret ρ.2.2.2.2.2.2.2.2.2.2.2.2.1) fun x177 => M.ret (rootO x177)) fun x178 => M.ret (!x178)) (M.ret false)) fun x182 => M.ifb x182 (M.bind (M.bind (M.ret ()) fun x180 => M.ret (none : (Option Nm))) fun x181 => M.ret (.rt x181)) (M.ret (.nx ρ))) fun ρ => (M.bind (M.bind (M.bind (M.bind (M.ret ρ.2.2.2.2.2.2.2.2.2.2.1) fun x183 => M.the (id x183)) fun x187 => M.bind (M.bind (M.ret ρ.2.2.2.2.2.2.2.2.2.2.2.1) fun x184 => M.the (id x184)) fun x188 => M.bind (M.bind (M.ret ρ.2.2.2.2.2.2.2.2.2.2.2.2.1) fun x185 => M.the (id x185)) fun x189 => M.bind (M.bind (M.ret ρ.2.2.2.2.1) fun x186 => M.the (id x186)) fun x190 => M.need (x190 ≠ 0 ∧ Bd 9000 x190) (M.ret (mkNm x187 x188 x189 x190))) fun x191 => M.ret (some x191)) fun x192 => M.ret (.rt x192)))))))))))
noncomputable def m_number_in (a : (Str × Unit)) : M (Option Nm) := M.fin (b_number_in (a.1, ((), ((), ((), ((), ((), ((), ((), ((), ((), ((), ((), ((), ()))))))))))))))
theorem ok_number_in (F : Fun K "number_in" "number_in" (topS 24) f fd) (G_integer_in : GD P w K mg base "integer_in" 2 (spOf (aCons rStr aNil) (rOpt rInt) m_integer_in)) (G_parts_in : GD P w K mg base "parts_in" 2 (spOf (aCons rStr aNil) (rTx K (aCons rStr (aCons rStr aNil))) m_parts_in)) (G_is_root_O : GD P w K mg base "is_root" 3 spIsRootO) (G_Number : GM P w K mg base "Number" CN 6 [.int 0, .int 0, .int 1] (spNumI CN CF)) (G_Form : GM P w K mg base "Form" CF 3 [] (spFormI CF)) : FnOk P w K mg base CX0 8 f fd ["text"] (spOf (aCons rStr aNil) (rOpt (rNum CN)) m_number_in) := by
  refine F.ok sc_number_in (fun vs H Q E h => spOf_len h) (fun cdv A outer s H vs Q E hr h => ⟨_, (pss_cons (ps_asg (pe_partition (pv 0) pe_str) (pg_tup (by rfl) (pgs_cons (pg_name (i := 1) sc_number_in.nd rfl (by first | exact Or.inl rfl | exact Or.inr rfl)) (pgs_cons (pg_name (i := 2) sc_number_in.nd rfl (by first | exact Or.inl rfl | exact Or.inr rfl)) (pgs_cons (pg_name (i := 3) sc_number_in.nd rfl (by first | exact Or.inl rfl | exact Or.inr rfl)) pgs_nil)))))
  (pss_cons (ps_set (i := 4) sc_number_in.nd rfl (by first | exact Or.inl rfl | exact Or.inr rfl) (pe_ifExp (pt_cmpR op_ne (pv 2) pe_str (nomark _)) (pe_c1 G_integer_in (hr.mono (by decide)) (pa_cons (pv 3) pa_nil)) pe_int))
  (pss_cons (ps_if (PW.pt (pw_and (pt_cmpR op_eq (pe_slice sl_str (pv 1) po_none (po_some pe_int)) pe_str (nomark _)) (pw_and1 (pt_cmpR op_eq (pe_slice sl_str (pv 1) (po_some (pe_un un_neg pe_int)) po_none) pe_str (nomark _))))) (pss_one (ps_set (i := 1) sc_number_in.nd rfl (by first | exact Or.inl rfl | exact Or.inr rfl) (pe_slice sl_str (pv 1) (po_some pe_int) (po_some (pe_un un_neg pe_int))))) pss_nil)
  (pss_cons (ps_asg (pe_partition (pv 1) pe_str) (pg_tup (by rfl) (pgs_cons (pg_name (i := 5) sc_number_in.nd rfl (by first | exact Or.inl rfl | exact Or.inr rfl)) (pgs_cons (pg_name (i := 6) sc_number_in.nd rfl (by first | exact Or.inl rfl | exact Or.inr rfl)) (pgs_cons (pg_name (i := 7) sc_number_in.nd rfl (by first | exact Or.inl rfl | exact Or.inr rfl)) pgs_nil)))))
  (pss_cons (ps_asg (pe_ifExp (pt_cmpR op_ne (pv 6) pe_str (nomark _)) (pe_c1 G_parts_in (hr.mono (by decide)) (pa_cons (pv 5) pa_nil)) (pe_tup (pa_cons (pv 5) (pa_cons pe_str pa_nil)))) (pg_tup (by rfl) (pgs_cons (pg_name (i := 8) sc_number_in.nd rfl (by first | exact Or.inl rfl | exact Or.inr rfl)) (pgs_cons (pg_name (i := 9) sc_number_in.nd rfl (by first | exact Or.inl rfl | exact Or.inr rfl)) pgs_nil))))
  (pss_cons (ps_par (i := 10) (j := 11) (by rfl) sc_number_in.nd rfl rfl (by decide) rfl rfl (pa_cons (pe_ifExp (pt_cmpR op_ne (pv 8) pe_str (nomark _)) (pe_c1 G_integer_in (hr.mono (by decide)) (pa_cons (pv 8) pa_nil)) pe_int) (pa_cons (pe_c1 G_integer_in (hr.mono (by decide)) (pa_cons (pv 9) pa_nil)) pa_nil)) (by rfl))
  (pss_cons (ps_set (i := 12) sc_number_in.nd rfl (by first | exact Or.inl rfl | exact Or.inr rfl) (pe_ifExp (pt_cmpR op_ne (pv 6) pe_str (nomark _)) (pe_c1 G_integer_in (hr.mono (by decide)) (pa_cons (pv 7) pa_nil)) pe_int))
  (pss_cons (ps_if (PW.pt (pw_or (pt_cmpR op_isN (pv 4) pe_non (nomark _)) (pw_or (pt_cmpR op_eq (pv 4) pe_int (nomark _)) (pw_or (pt_cmpR op_isN (pv 10) pe_non (nomark _)) (pw_or1 (pt_cmpR op_isN (pv 11) pe_non (nomark _))))))) (pss_one (ps_ret pe_non)) pss_nil)
  (pss_cons (ps_if (PW.pt (pw_and (pt_cmpR op_ne (pv 6) pe_str (nomark _)) (pw_and1 (pt_not (pt_val (pe_c1 G_is_root_O (hr.mono (by decide)) (pa_cons (pv 12) pa_nil))))))) (pss_one (ps_ret pe_non)) pss_nil)
  (pss_one (ps_ret (pe_m1 G_Number (hr.mono (by decide)) (pa_cons (pe_m1 G_Form (hr.mono (by decide)) (pa_cons (pv 10) (pa_cons (pv 11) (pa_cons (pv 12) (pa_cons (pv 4) pa_nil))))) pa_nil))))))))))))), ?_⟩)
  refine fn_body (X := E) (S := (aCons rStr aNil)) (E' := eNil) (R := (rOpt (rNum CN))) (st_par (st_un (st_un (st_un (st_un (st_un (st_un (st_un (st_un (st_un (st_un (st_un (st_un st_nil))))))))))))) rfl (s_seq (s_asg (e_partition (e_var get0) e_str) (g_tup (gs_cons (g_name pu1) (gs_cons (g_name pu2) (gs_cons (g_name pu3) gs_nil))) rfl))
  (s_seq (s_asg (e_if (t_of (e_op (o_ne sc_str) (e_var gt2) e_str)) (e_call (a_cons (e_var gt3) a_nil)) (e_coeX (coe_some nn_int) e_int)) (g_name pu4))
  (s_seq (s_if (t_and (t_of (e_op (o_eq sc_str) (e_sl sl_S (e_var gt1) so_none (so_some e_int)) e_str)) (t_of (e_op (o_eq sc_str) (e_sl sl_S (e_var gt1) (so_some (e_un (u_ii fun _ => rfl) e_int)) so_none) e_str))) (s_asg (e_sl sl_S (e_var gt1) (so_some e_int) (so_some (e_un (u_ii fun _ => rfl) e_int))) (g_name pu1)) s_nil)
  (s_seq (s_asg (e_partition (e_var gt1) e_str) (g_tup (gs_cons (g_name pu5) (gs_cons (g_name pu6) (gs_cons (g_name pu7) gs_nil))) rfl))
  (s_seq (s_asg (e_if (t_of (e_op (o_ne sc_str) (e_var gt6) e_str)) (e_call (a_cons (e_var gt5) a_nil)) (e_tup (a_cons (e_var gt5) (a_cons e_str a_nil)) (le_n 2))) (g_tup (gs_cons (g_name pu8) (gs_cons (g_name pu9) gs_nil)) rfl))
  (s_seq (s_parV (sv_e (e_if (t_of (e_op (o_ne sc_str) (e_var gt8) e_str)) (e_call (a_cons (e_var gt8) a_nil)) (e_coeX (coe_some nn_int) e_int))) (sv_e (e_call (a_cons (e_var gt9) a_nil))) pu10 pu11)
  (s_seq (s_asg (e_if (t_of (e_op (o_ne sc_str) (e_var gt6) e_str)) (e_call (a_cons (e_var gt7) a_nil)) (e_coeX (coe_some nn_int) e_int)) (g_name pu12))
  (s_seq (s_if (t_or (t_of (e_op o_isN (e_var gt4) e_non)) (t_or (t_of (e_op (o_eq sc_int) (e_the (f := id) opt_get (e_var gt4)) e_int)) (t_or (t_of (e_op o_isN (e_var gt10) e_non)) (t_of (e_op o_isN (e_var gt11) e_non))))) (s_ret (e_coeX (Rb := (rOpt (rNum CN))) coe_none e_non)) s_nil)
  (s_seq (s_if (t_and (t_of (e_op (o_ne sc_str) (e_var gt6) e_str)) (t_not (t_b (e_isRootO (e_var gt12))))) (s_ret (e_coeX (Rb := (rOpt (rNum CN))) coe_none e_non)) s_nil)
  (s_ret (e_coeX (coe_some nn_num) (e_mkNumF (e_mkForm (e_the (f := id) opt_get (e_var gt10)) (e_the (f := id) opt_get (e_var gt11)) (e_the (f := id) opt_get (e_var gt12)) (e_the (f := id) opt_get (e_var gt4))))))))))))))) ?_
  exact h
theorem sc_Number_read : FnScope ["cls", "text", "found"] ["cls", "text"] (defScope (inClass (topS 18) 2)) := ⟨rfl, rfl, rfl, by decide +kernel, rfl, by decide +kernel, by decide +kernel⟩
noncomputable def b_Number_read (ρ : (Unit × (Str × (Unit × Unit)))) : M (Ct Unit Unit Nm) := (M.thn (M.bind (M.bind (M.bind (M.bind (M.ret ρ.2.1) fun x195 => M.bind (M.bind (M.ret ()) fun x193 => M.bind (M.ret ()) fun x194 => M.ret (x193, x194)) fun x196 => M.ret (x195, x196)) fun r197 => M.ret true) fun x202 => M.ifb x202 (M.bind (M.bind (M.ret ρ.2.1) fun x198 => M.bind (M.ret ()) fun x199 => M.ret (x198, x199)) fun r200 => M.still (m_number_in r200)) (M.bind (M.ret ()) fun x201 => M.ret (none : (Option Nm)))) fun x203 => M.ret (.nx (ρ.1, ρ.2.1, x203, ρ.2.2.2))) fun ρ => (M.thn (M.bind (M.bind (M.bind (M.ret ρ.2.2.1) fun x204 => M.bind (M.ret ()) fun x205 => M.ret (Option.isNone x204)) fun x210 => M.ifb x210 (M.ret true) (M.bind (M.bind (M.bind (M.ret ρ.2.2.1) fun x206 => M.the (id x206)) fun x207 => M.need (Gd 9000 x207) (M.ret (toldT (Nm.t x207) (Nm.p x207) (Nm.r x207) (Nm.b x207)))) fun x208 => M.bind (M.ret ρ.2.1) fun x209 => M.ret (!decide (x208 = x209)))) fun x211 => M.ifb x211 M.none (M.ret (.nx ρ))) fun ρ => (M.bind (M.bind (M.ret ρ.2.2.1) fun x212 => M.the (id x212)) fun x213 => M.ret (.rt x213))))
noncomputable def m_Number_read (a : (Unit × (Str × Unit))) : M Nm := M.fin (b_Number_read (a.1, (a.2.1, ((), ()))))
theorem ok_Number_read (F : Fun K "read" "Number.read" (inClass (topS 18) 2) f fd) (fr : Free mg) (G_number_in : GD P w K mg base "number_in" 8 (spOf (aCons rStr aNil) (rOpt (rNum CN)) m_number_in)) (TN : NTxt K mg CN CF) (S_str : GS P w K mg base CN 3 (spStr CN)) : FnOk P w K mg base CX0 9 f fd ["cls", "text"] (spOf (aCons (rCls CN) (aCons rStr aNil)) (rNum CN) m_Number_read) := by
  refine F.ok sc_Number_read (fun vs H Q E h => spOf_len h) (fun cdv A outer s H vs Q E hr h => ⟨_, (pss_cons (ps_set (i := 2) sc_Number_read.nd rfl (by first | exact Or.inl rfl | exact Or.inr rfl) (pe_ifExp (pt_val (pe_callB call_isiU (by rfl) fr.b_isinstance (by decide +kernel) (pa_cons (pv 1) (pa_cons (pe_bltn (v := .ty "str") (by rfl) fr.b_str (by decide +kernel) rfl) pa_nil)))) (pe_c1 G_number_in (hr.mono (by decide)) (pa_cons (pv 1) pa_nil)) pe_non))
  (pss_cons (ps_if (PW.pt (pw_or (pt_cmpR op_isN (pv 2) pe_non (nomark _)) (pw_or1 (pt_cmpR op_ne (pe_callTy (call_strN S_str (hr.mono (by decide))) (by rfl) fr.b_str (by decide +kernel) (pa_cons (pv 2) pa_nil)) (pv 1) (nomark _))))) (pss_one ps_never) pss_nil)
  (pss_one (ps_ret (pv 2))))), ?_⟩)
  refine fn_body (X := E) (S := (aCons (rCls CN) (aCons rStr aNil))) (E' := eNil) (R := (rNum CN)) (st_par (st_par (st_un st_nil))) rfl (s_seq (s_asg (e_if (t_b (e_ca (c_isiT (b := true) tr_str (kit_ty (by decide +kernel))) (a_cons (e_var gt1) (a_cons e_tyV a_nil)))) (e_call (a_cons (e_var gt1) a_nil)) (e_coeX (Rb := (rOpt (rNum CN))) coe_none e_non)) (g_name pu2))
  (s_seq (s_if (t_or (t_of (e_op o_isN (e_var gt2) e_non)) (t_of (e_op (o_ne sc_str) (e_numStr (e_the (f := id) opt_get (e_var gt2))) (e_var gt1)))) s_never s_nil)
  (s_ret (e_the (f := id) opt_get (e_var gt2))))) ?_
  exact h
noncomputable def b_Number_read_X (ρ : (Unit × ((Sum PyData (Sum Nm Unit)) × (Unit × Unit)))) : M (Ct Unit Unit Nm) := (M.thn (M.safe (M.bind (M.bind (M.bind (M.bind (M.ret ρ.2.1) fun x216 => M.bind (M.bind (M.ret ()) fun x214 => M.bind (M.ret ()) fun x215 => M.ret (x214, x215)) fun x217 => M.ret (x216, x217)) fun r218 => (sumE (fun x => M.ret (isD "str" x)) (sumE (fun _ => M.ret false) (fun _ => M.ret false))) r218.1) fun x225 => M.ifb x225 (M.bind (M.bind (M.bind (M.bind (M.ret ρ.2.1) fun x219 => M.the (lftS x219)) fun x220 => M.the (dStr x220)) fun x221 => M.bind (M.ret ()) fun x222 => M.ret (x221, x222)) fun r223 => M.still (m_number_in r223)) (M.bind (M.ret ()) fun x224 => M.ret (none : (Option Nm)))) fun x226 => M.ret (.nx (ρ.1, ρ.2.1, x226, ρ.2.2.2)))) fun ρ => (M.thn (M.bind (M.safe (M.bind (M.bind (M.ret ρ.2.2.1) fun x227 => M.bind (M.ret ()) fun x228 => M.ret (Option.isNone x227)) fun x235 => M.ifb x235 (M.ret true) (M.bind (M.bind (M.bind (M.ret ρ.2.2.1) fun x229 => M.the (id x229)) fun x230 => M.need (Gd 9000 x230) (M.ret (toldT (Nm.t x230) (Nm.p x230) (Nm.r x230) (Nm.b x230)))) fun x233 => M.bind (M.bind (M.bind (M.ret ρ.2.1) fun x231 => M.the (lftS x231)) fun x232 => M.the (dStr x232)) fun x234 => M.ret (!decide (x233 = x234))))) fun x238 => M.ifb x238 (M.bind (M.safe (M.bind (M.ret (0 : Int)) fun x236 => M.ret (PyData.int x236))) fun x237 => M.raise ⟨"ParseError", id x237⟩) (M.safe (M.ret (.nx ρ)))) fun ρ => (M.safe (M.bind (M.bind (M.ret ρ.2.2.1) fun x239 => M.the (id x239)) fun x240 => M.ret (.rt x240)))))
noncomputable def m_Number_read_X (a : (Unit × ((Sum PyData (Sum Nm Unit)) × Unit))) : M Nm := M.fin (b_Number_read_X (a.1, (a.2.1, ((), ()))))
theorem ok_Number_read_X (F : Fun K "read" "Number.read" (inClass (topS 18) 2) f fd) (fr : Free mg) (TN : NTxt K mg CN CF) (iN_str : PySem.W.kitOne K (.ref CN) (.type "str") = some false) (G_number_in : GD P w K mg base "number_in" 8 (spOf (aCons rStr aNil) (rOpt (rNum CN)) m_number_in)) (S_str : GS P w K mg base CN 3 (spStr CN)) (Y_ParseError : GErr P K mg "ParseError" "index" A_ParseError) : FnOk P w K mg base (L2.CX P w) 9 f fd ["cls", "text"] (spOfF K mg flE (aCons (rCls CN) (aCons (rUn (rDt K) (rUn (rNum CN) rD0)) aNil)) (rNum CN) m_Number_read_X) := by
  refine F.okX sc_Number_read (fun vs H Q E h => spOfF_len h) (fun cdv A outer s H vs Q E hr h => ⟨_, (pss_cons (ps_set (i := 2) sc_Number_read.nd rfl (by first | exact Or.inl rfl | exact Or.inr rfl) (pe_ifExp (pt_val (pe_callB call_isiU (by rfl) fr.b_isinstance (by decide +kernel) (pa_cons (pv 1) (pa_cons (pe_bltn (v := .ty "str") (by rfl) fr.b_str (by decide +kernel) rfl) pa_nil)))) (pe_c1 G_number_in (hr.mono (by decide)) (pa_cons (pv 1) pa_nil)) pe_non))
  (pss_cons (ps_if (PW.pt (pw_or (pt_cmpR op_isN (pv 2) pe_non (nomark _)) (pw_or1 (pt_cmpR op_ne (pe_callTy (call_strN S_str (hr.mono (by decide))) (by rfl) fr.b_str (by decide +kernel) (pa_cons (pv 2) pa_nil)) (pv 1) (nomark _))))) (pss_one (ps_raiseF (takes_of rfl rfl rfl rfl) Y_ParseError (hr.mono (by decide) : Room 1 _) (pa_cons pe_int pa_nil))) pss_nil)
  (pss_one (ps_ret (pv 2))))), ?_⟩)
  refine fn_bodyF (K := K) (X := E) (S := (aCons (rCls CN) (aCons (rUn (rDt K) (rUn (rNum CN) rD0)) aNil))) (E' := eNil) (R := (rNum CN)) (st_par (st_par (st_un st_nil))) rfl (s_seq (ss_safe (s_asg (e_if (t_b (e_ca (cas_un (c_isiDt (u := "str")) (cas_un (c_isi (tr_num TN) (.ty "str") iN_str fun h => h) (c_isiT (b := false) tr_d0 (kit_ty (by decide +kernel))))) (a_cons (e_var gt1) (a_cons e_tyV a_nil)))) (e_call (a_cons (e_dStr (e_the (f := lftS) un_get (e_var gt1))) a_nil)) (e_coeX (Rb := (rOpt (rNum CN))) coe_none e_non)) (g_name pu2)))
  (s_seq (s_if (st_safe (t_or (t_of (e_op o_isN (e_var gt2) e_non)) (t_of (e_op (o_ne sc_str) (e_numStr (e_the (f := id) opt_get (e_var gt2))) (e_dStr (e_the (f := lftS) un_get (e_var gt1))))))) (s_raiseF (fl := flE) (dat := id) Y_ParseError.gl (by decide +kernel) (fun h => h) (fun _ => rfl) (se_safe (e_dat dp_int e_int))) (ss_safe s_nil))
  (ss_safe (s_ret (e_the (f := id) opt_get (e_var gt2)))))) ?_
  exact h
end
end PF2
set_option maxHeartbeats 400000
namespace PF
open PySem PySem.Spec PyProof.Rows L2 SlX
namespace M
section
variable {α : Type} {c : Nat} {Q : α → Nat → Prop} {X : Er → Prop}
theorem safe_W {m : M α} : W (M.safe m) c Q X = W m c Q (fun _ => False) := id rfl
theorem raise_W {e : Er} : W (M.raise e : M α) c Q X = X e := id rfl
theorem tryM_W {m : M α} {h : Er → M α} : W (M.tryM m h) c Q X = W m c Q (fun e => W (h e) c Q X) := id rfl
theorem byE_W {ys ns : List Str} {m : M α} {n : Er → M α} {e : Er} : W (M.byE ys ns m n e) c Q X = ((e.cls ∈ ys ∧ W m c Q X) ∨ (e.cls ∈ ns ∧ W (n e) c Q X)) := id rfl
end
end M
end PF
set_option maxHeartbeats 1000000
namespace PySem.W
open PySem PySem.Calls PyProof.Rows PyProof.V PySem.Spec
end PySem.W
namespace PF
open PySem PySem.Spec PyProof.Rows L2 SlX
theorem AllD.at2 {κ α : Type} {kf : κ → L2.Key} {f : V → α → Prop} {kvs : List (L2.Key × V)} {l : List (κ × α)} (h : AllD kf f kvs l) {i : Nat} {k : L2.Key} {v : V} (e : kvs[i]? = some (k, v)) : ∃ k' a, l[i]? = some (k', a) ∧ k = kf k' ∧ f v a := by
  induction h generalizing i with
  | nil => simp at e
  | @cons v2 k2 a2 _ _ h _ ih => cases i with
    | zero =>
      simp at e
      obtain ⟨rfl, rfl⟩ := e
      exact ⟨k2, a2, rfl, rfl, h⟩
    | succ i => simpa using ih (by simpa using e)
end PF
namespace GQ
open PySem PySem.SeqAt
open AutoSeq1 (wpAny_loadPart')
open MeetsSeq MeetsSeq2 MeetsSeq3 SeqRoads2
end GQ
namespace PF
open PySem PySem.Spec PyProof.Rows L2 SlX
section
variable {Γ α β γ : Type} {μ : Md} {E : EV Γ} {Ra : Rp α} {Rb : Rp β} {K : PySem.W.Frag}
theorem o_neDt : OpS μ (rNeD K) (rDt K) (rDt K) rBl fun a b => .need ((a.canLay0 = true ∧ a.depth ≤ 64) ∧ (b.canLay0 = true ∧ b.depth ≤ 64)) (.ret (!PyData.eqv a b)) := fun k F H c x y a b Q w hx hy q =>
  ⟨_, _, dp_same w.sub _ _ (hx.dp fun e => by have := q.1.1.1; rw [e] at this; cases this), dp_same w.sub _ _ (hy.dp fun e => by have := q.1.2.1; rw [e] at this; cases this), shaped_of q.1.1.2 (Nat.le_refl _) q.1.1.1, shaped_of q.1.2.2 (Nat.le_refl _) q.1.2.1, q.2 _ F H (ExtX.refl w.sub) w rfl⟩
end
end PF
set_option maxHeartbeats 400000
namespace PF
open PySem PySem.Spec PyProof.Rows L2 SlX
section
variable {μ : Md} {K : PySem.W.Frag}
def rNiS : V → V → Hp → VK → Prop := fun x y H Q => ∃ i j, x = .str i ∧ y = .str j ∧ Q (.bl (!(!(Builtin.Str.occurrences j i 0 j.length 1).isEmpty))) H
theorem op_niS {X : Cx} : OpR X (compareOp .NotIn) rNiS := op_notIn_str
theorem o_niS : OpS μ rNiS rStr rStr rBl fun a b => .ret (!(inStr a b)) := fun k F H c x y a b Q w hx hy q => ⟨a, b, hx, hy, VP.now w q rfl⟩
end
end PF
set_option maxHeartbeats 4000000
namespace PF2
open PF PySem PySem.Spec PyProof.Rows L2 SlX
section
variable {P : Program} {w : World} {K : PySem.W.Frag} {mg : Str → Option Value} {base : Heap} {f CO CN CF CE : Addr} {fd : FuncData}
theorem sc__law_common : FnScope ["_law_one", "_law_other", "_law_turn"] ["_law_one", "_law_other"] (defScope (topS 29)) := ⟨rfl, rfl, rfl, by decide +kernel, rfl, by decide +kernel, by decide +kernel⟩
noncomputable def b__law_common (ρ : (Int × (Int × (Unit × Unit)))) : M (Ct Unit Unit Int) := (M.thn (M.bind (M.bind (M.ret (9000 : Int)) fun x1 => M.need (-(2 ^ 62) ≤ x1 ∧ x1 < 2 ^ 62) (M.ret (rng 0 x1))) fun l13 => M.forM l13 (fun (a2 : Int) (ρ : (Int × (Int × (Unit × Unit)))) => (fun ρ => (M.thn (M.thn (M.bind (M.bind (M.ret ρ.2.1) fun x3 => M.bind (M.ret (0 : Int)) fun x4 => M.ret (decide (x3 = x4))) fun x5 => M.ifb x5 (M.ret (.bk (ρ.1, ρ.2.1, (), ρ.2.2.2))) (M.ret (.nx ρ))) fun ρ => (M.bind (M.ret ρ.2.1) fun x11 => M.bind (M.bind (M.bind (M.bind (M.ret ρ.1) fun x6 => M.bind (M.ret ()) fun x7 => M.ret (x6, x7)) fun r8 => M.ret r8.1) fun x9 => M.bind (M.ret ρ.2.1) fun x10 => M.need (x10 ≠ 0) (M.ret (Int.fmod x9 x10))) fun x12 => M.ret (.nx (x11, x12, ρ.2.2.1, ρ.2.2.2)))) fun ρ => M.ret (.nx (ρ.1, ρ.2.1, (), ρ.2.2.2)))) (ρ.1, ρ.2.1, a2, ρ.2.2.2)) ρ) fun ρ => (M.bind (M.ret ρ.1) fun x14 => M.ret (.rt x14)))
noncomputable def m__law_common (a : (Int × (Int × Unit))) : M Int := M.fin (b__law_common (a.1, (a.2.1, ((), ()))))
theorem ok__law_common (F : Fun K "_law_common" "_law_common" (topS 29) f fd) (fr : Free mg) : FnOk P w K mg base CX0 2 f fd ["_law_one", "_law_other"] (spOf (aCons rInt (aCons rInt aNil)) rInt m__law_common) := by
  refine F.ok sc__law_common (fun vs H Q E h => spOf_len h) (fun cdv A outer s H vs Q E hr h => ⟨_, (pss_cons (ps_for PassesOwn.never rfl (pi_range1 (by rfl) fr.b_range (pa_cons pe_int pa_nil)) (pg_name (i := 2) sc__law_common.nd rfl (by first | exact Or.inl rfl | exact Or.inr rfl)) (pss_cons (ps_if (pt_cmpR op_eq (pv 1) pe_int (nomark _)) (pss_one ps_break) pss_nil)
  (pss_one (ps_par (i := 0) (j := 1) (by rfl) sc__law_common.nd rfl rfl (by decide) rfl rfl (pa_cons (pv 1) (pa_cons (pe_op op_modN (pe_callTy call_int1 (by rfl) fr.b_int (by decide +kernel) (pa_cons (pv 0) pa_nil)) (pv 1)) pa_nil)) (by rfl)))))
  (pss_one (ps_ret (pv 0)))), ?_⟩)
  refine fn_body (X := E) (S := (aCons rInt (aCons rInt aNil))) (E' := eNil) (R := rInt) (st_par (st_par (st_un st_nil))) rfl (s_seq (s_for (i_rng1 e_int) (g_name pu2) (s_post (s_seq (s_if (t_of (e_op (o_eq sc_int) (e_var gt1) e_int)) (s_pre (wk_fg (fg_keep (fg_keep (fg_un fg_nil)))) s_brk) s_nil)
  (s_parV (sv_e (e_var gt1)) (sv_e (e_op (o_iiC fun _ _ => rfl) (e_ca c_intI (a_cons (e_var get0) a_nil)) (e_var gt1))) put0 pu1)) (wk_fg (fg_keep (fg_keep (fg_un fg_nil))))))
  (s_ret (e_var get0))) ?_
  exact h
theorem sc__law_least : FnScope ["_law_top", "_law_part", "_law_root", "_law_bottom", "_law_common_here"] ["_law_top", "_law_part", "_law_root", "_law_bottom"] (defScope (topS 30)) := ⟨rfl, rfl, rfl, by decide +kernel, rfl, by decide +kernel, by decide +kernel⟩
noncomputable def b__law_least (ρ : (Int × (Int × (Int × (Int × (Unit × Unit)))))) : M (Ct Unit Unit (Int × (Int × (Int × (Int × Unit))))) := (M.thn (M.bind (M.bind (M.bind (M.bind (M.bind (M.bind (M.bind (M.ret ρ.1) fun x15 => M.bind (M.ret ()) fun x16 => M.ret (x15, x16)) fun r17 => M.ret (if r17.1 < 0 then -r17.1 else r17.1)) fun x23 => M.bind (M.bind (M.bind (M.bind (M.ret ρ.2.1) fun x18 => M.bind (M.ret ()) fun x19 => M.ret (x18, x19)) fun r20 => M.ret (if r20.1 < 0 then -r20.1 else r20.1)) fun x21 => M.bind (M.ret ()) fun x22 => M.ret (x21, x22)) fun x24 => M.ret (x23, x24)) fun r25 => M.still (m__law_common r25)) fun x31 => M.bind (M.bind (M.bind (M.bind (M.ret ρ.2.2.2.1) fun x26 => M.bind (M.ret ()) fun x27 => M.ret (x26, x27)) fun r28 => M.ret (if r28.1 < 0 then -r28.1 else r28.1)) fun x29 => M.bind (M.ret ()) fun x30 => M.ret (x29, x30)) fun x32 => M.ret (x31, x32)) fun r33 => M.still (m__law_common r33)) fun x34 => M.ret (.nx (ρ.1, ρ.2.1, ρ.2.2.1, ρ.2.2.2.1, x34, ρ.2.2.2.2.2))) fun ρ => (M.thn (M.bind (M.bind (M.ret ρ.2.2.2.1) fun x35 => M.bind (M.ret (0 : Int)) fun x36 => M.ret (decide (x35 < x36))) fun x39 => M.ifb x39 (M.bind (M.bind (M.ret ρ.2.2.2.2.1) fun x37 => M.ret (-x37)) fun x38 => M.ret (.nx (ρ.1, ρ.2.1, ρ.2.2.1, ρ.2.2.2.1, x38, ρ.2.2.2.2.2))) (M.ret (.nx ρ))) fun ρ => (M.bind (M.bind (M.bind (M.ret ρ.1) fun x40 => M.bind (M.ret ρ.2.2.2.2.1) fun x41 => M.need (CDvz x40 x41) (M.ret (Int.fdiv x40 x41))) fun x55 => M.bind (M.bind (M.bind (M.ret ρ.2.1) fun x42 => M.bind (M.ret ρ.2.2.2.2.1) fun x43 => M.need (CDvz x42 x43) (M.ret (Int.fdiv x42 x43))) fun x53 => M.bind (M.bind (M.bind (M.bind (M.ret ρ.2.1) fun x44 => M.bind (M.ret (0 : Int)) fun x45 => M.ret (!decide (x44 = x45))) fun x46 => M.ifb x46 (M.ret ρ.2.2.1) (M.ret (0 : Int))) fun x51 => M.bind (M.bind (M.bind (M.ret ρ.2.2.2.1) fun x47 => M.bind (M.ret ρ.2.2.2.2.1) fun x48 => M.need (CDvz x47 x48) (M.ret (Int.fdiv x47 x48))) fun x49 => M.bind (M.ret ()) fun x50 => M.ret (x49, x50)) fun x52 => M.ret (x51, x52)) fun x54 => M.ret (x53, x54)) fun x56 => M.ret (x55, x56)) fun x58 => M.ret (.rt x58))))
noncomputable def m__law_least (a : (Int × (Int × (Int × (Int × Unit))))) : M (Int × (Int × (Int × (Int × Unit)))) := M.fin (b__law_least (a.1, (a.2.1, (a.2.2.1, (a.2.2.2.1, ((), ()))))))
theorem ok__law_least (F : Fun K "_law_least" "_law_least" (topS 30) f fd) (fr : Free mg) (G__law_common : GD P w K mg base "_law_common" 2 (spOf (aCons rInt (aCons rInt aNil)) rInt m__law_common)) : FnOk P w K mg base CX0 3 f fd ["_law_top", "_law_part", "_law_root", "_law_bottom"] (spOf (aCons rInt (aCons rInt (aCons rInt (aCons rInt aNil)))) (rTx K (aCons rInt (aCons rInt (aCons rInt (aCons rInt aNil))))) m__law_least) := by
  refine F.ok sc__law_least (fun vs H Q E h => spOf_len h) (fun cdv A outer s H vs Q E hr h => ⟨_, (pss_cons (ps_set (i := 4) sc__law_least.nd rfl (by first | exact Or.inl rfl | exact Or.inr rfl) (pe_c1 G__law_common (hr.mono (by decide)) (pa_cons (pe_c1 G__law_common (hr.mono (by decide)) (pa_cons (pe_callB call_abs (by rfl) fr.b_abs (by decide +kernel) (pa_cons (pv 0) pa_nil)) (pa_cons (pe_callB call_abs (by rfl) fr.b_abs (by decide +kernel) (pa_cons (pv 1) pa_nil)) pa_nil))) (pa_cons (pe_callB call_abs (by rfl) fr.b_abs (by decide +kernel) (pa_cons (pv 3) pa_nil)) pa_nil))))
  (pss_cons (ps_if (pt_cmpR op_lt (pv 3) pe_int (nomark _)) (pss_one (ps_set (i := 4) sc__law_least.nd rfl (by first | exact Or.inl rfl | exact Or.inr rfl) (pe_un un_neg (pv 4)))) pss_nil)
  (pss_one (ps_ret (pe_tup (pa_cons (pe_op op_fdivZ (pv 0) (pv 4)) (pa_cons (pe_op op_fdivZ (pv 1) (pv 4)) (pa_cons (pe_ifExp (pt_cmpR op_ne (pv 1) pe_int (nomark _)) (pv 2) pe_int) (pa_cons (pe_op op_fdivZ (pv 3) (pv 4)) pa_nil))))))))), ?_⟩)
  refine fn_body (X := E) (S := (aCons rInt (aCons rInt (aCons rInt (aCons rInt aNil))))) (E' := eNil) (R := (rTx K (aCons rInt (aCons rInt (aCons rInt (aCons rInt aNil)))))) (st_par (st_par (st_par (st_par (st_un st_nil))))) rfl (s_seq (s_asg (e_call (a_cons (e_call (a_cons (e_ca c_abs (a_cons (e_var get0) a_nil)) (a_cons (e_ca c_abs (a_cons (e_var gt1) a_nil)) a_nil))) (a_cons (e_ca c_abs (a_cons (e_var gt3) a_nil)) a_nil))) (g_name pu4))
  (s_seq (s_if (t_of (e_op (o_ib fun _ _ => rfl) (e_var gt3) e_int)) (s_asg (e_un (u_ii fun _ => rfl) (e_var gt4)) (g_name pu4)) s_nil)
  (s_ret (e_tup (a_cons (e_op (o_iiC fun _ _ => rfl) (e_var get0) (e_var gt4)) (a_cons (e_op (o_iiC fun _ _ => rfl) (e_var gt1) (e_var gt4)) (a_cons (e_if (t_of (e_op (o_ne sc_int) (e_var gt1) e_int)) (e_var gt2) e_int) (a_cons (e_op (o_iiC fun _ _ => rfl) (e_var gt3) (e_var gt4)) a_nil)))) (le_n 4))))) ?_
  exact h
theorem sc__law_parts_drawn : FnScope ["_law_dice_here", "_law_root", "_law_near", "_law_top", "_law_part"] ["_law_dice_here", "_law_root"] (defScope (topS 31)) := ⟨rfl, rfl, rfl, by decide +kernel, rfl, by decide +kernel, by decide +kernel⟩
noncomputable def b__law_parts_drawn (ρ : (Unit × (Int × (Unit × (Unit × (Unit × Unit)))))) : M (Ct Unit Unit (Int × (Int × (Int × (Int × Unit))))) := (M.thn (M.bind (M.bind (M.bind (M.bind (M.ret (10 : Int)) fun x71 => M.bind (M.bind (M.ret (10 : Int)) fun x69 => M.bind (M.bind (M.ret (10 : Int)) fun x67 => M.bind (M.bind (M.bind (M.ret (10 : Int)) fun x59 => M.bind (M.ret (6 : Int)) fun x60 => M.need (CPow x59 x60) (M.ret (x59 ^ Int.toNat x60))) fun x65 => M.bind (M.bind (M.bind (M.ret (10 : Int)) fun x61 => M.bind (M.ret (30 : Int)) fun x62 => M.need (CPow x61 x62) (M.ret (x61 ^ Int.toNat x62))) fun x63 => M.bind (M.ret ()) fun x64 => M.ret (x63, x64)) fun x66 => M.ret (x65, x66)) fun x68 => M.ret (x67, x68)) fun x70 => M.ret (x69, x70)) fun x72 => M.ret (x71, x72)) fun r73 => M.ret [r73.1, r73.2.1, r73.2.2.1, r73.2.2.2.1, r73.2.2.2.2.1]) fun x74 => M.pick x74) fun x75 => M.ret (.nx (ρ.1, ρ.2.1, x75, ρ.2.2.2))) fun ρ => (M.thn (M.bind (M.bind (M.bind (M.bind (M.bind (M.ret (2 : Int)) fun x76 => M.bind (M.ret ρ.2.2.1) fun x77 => M.need (CMulX x76 x77) (M.ret (x76 * x77))) fun x78 => M.bind (M.ret (1 : Int)) fun x79 => M.ret (x78 + x79)) fun x80 => M.roll x80) fun x81 => M.bind (M.ret ρ.2.2.1) fun x82 => M.ret (x81 - x82)) fun x83 => M.ret (.nx (ρ.1, ρ.2.1, ρ.2.2.1, x83, ρ.2.2.2.2))) fun ρ => (M.thn (M.bind (M.bind (M.bind (M.ret ρ.2.1) fun x84 => M.bind (M.ret (0 : Int)) fun x85 => M.ret (decide (x84 = x85))) fun x93 => M.ifb x93 (M.ret (0 : Int)) (M.bind (M.bind (M.bind (M.bind (M.ret (2 : Int)) fun x86 => M.bind (M.ret ρ.2.2.1) fun x87 => M.need (CMulX x86 x87) (M.ret (x86 * x87))) fun x88 => M.bind (M.ret (1 : Int)) fun x89 => M.ret (x88 + x89)) fun x90 => M.roll x90) fun x91 => M.bind (M.ret ρ.2.2.1) fun x92 => M.ret (x91 - x92))) fun x94 => M.ret (.nx (ρ.1, ρ.2.1, ρ.2.2.1, ρ.2.2.2.1, x94, ρ.2.2.2.2.2))) fun ρ => (M.bind (M.bind (M.ret ρ.2.2.2.1) fun x126 => M.bind (M.bind (M.ret ρ.2.2.2.2.1) fun x124 => M.bind (M.bind (M.ret ρ.2.1) fun x122 => M.bind (M.bind (M.bind (M.bind (M.bind (M.ret (1 : Int)) fun x116 => M.bind (M.bind (M.ret (1 : Int)) fun x114 => M.bind (M.bind (M.ret (2 : Int)) fun x112 => M.bind (M.bind (M.ret (3 : Int)) fun x110 => M.bind (M.bind (M.bind (M.ret (4 : Int)) fun x95 => M.ret (-x95)) fun x108 => M.bind (M.bind (M.ret (6 : Int)) fun x106 => M.bind (M.bind (M.bind (M.ret (1 : Int)) fun x96 => M.ret (-x96)) fun x104 => M.bind (M.bind (M.ret (12 : Int)) fun x102 => M.bind (M.bind (M.bind (M.ret (1 : Int)) fun x98 => M.bind (M.bind (M.ret ρ.2.2.1) fun x97 => M.roll x97) fun x99 => M.ret (x98 + x99)) fun x100 => M.bind (M.ret ()) fun x101 => M.ret (x100, x101)) fun x103 => M.ret (x102, x103)) fun x105 => M.ret (x104, x105)) fun x107 => M.ret (x106, x107)) fun x109 => M.ret (x108, x109)) fun x111 => M.ret (x110, x111)) fun x113 => M.ret (x112, x113)) fun x115 => M.ret (x114, x115)) fun x117 => M.ret (x116, x117)) fun r118 => M.ret [r118.1, r118.2.1, r118.2.2.1, r118.2.2.2.1, r118.2.2.2.2.1, r118.2.2.2.2.2.1, r118.2.2.2.2.2.2.1, r118.2.2.2.2.2.2.2.1, r118.2.2.2.2.2.2.2.2.1]) fun x119 => M.pick x119) fun x120 => M.bind (M.ret ()) fun x121 => M.ret (x120, x121)) fun x123 => M.ret (x122, x123)) fun x125 => M.ret (x124, x125)) fun x127 => M.ret (x126, x127)) fun x129 => M.ret (.rt x129)))))
noncomputable def m__law_parts_drawn (a : (Int × Unit)) : M (Int × (Int × (Int × (Int × Unit)))) := M.fin (b__law_parts_drawn ((), (a.1, ((), ((), ((), ()))))))
theorem ok__law_parts_drawn (F : Fun K "_law_parts_drawn" "_law_parts_drawn" (topS 31) f fd) (G__law_pick : GD P w K mg base "_law_pick" 3 spPick) (G__law_roll : GD P w K mg base "_law_roll" 2 spRoll) : FnOk P w K mg base CX0 4 f fd ["_law_dice_here", "_law_root"] (spOfD (aCons rInt aNil) (rTx K (aCons rInt (aCons rInt (aCons rInt (aCons rInt aNil))))) m__law_parts_drawn) := by
  refine F.ok sc__law_parts_drawn (fun vs H Q E h => spOfD_len h) (fun cdv A outer s H vs Q E hr h => ⟨_, (pss_cons (ps_set (i := 2) sc__law_parts_drawn.nd rfl (by first | exact Or.inl rfl | exact Or.inr rfl) (pe_c1 G__law_pick (hr.mono (by decide)) (pa_cons (pv 0) (pa_cons (pe_lst (pa_cons pe_int (pa_cons pe_int (pa_cons pe_int (pa_cons (pe_op op_pow pe_int pe_int) (pa_cons (pe_op op_pow pe_int pe_int) pa_nil)))))) pa_nil))))
  (pss_cons (ps_set (i := 3) sc__law_parts_drawn.nd rfl (by first | exact Or.inl rfl | exact Or.inr rfl) (pe_op op_sub (pe_c1 G__law_roll (hr.mono (by decide)) (pa_cons (pv 0) (pa_cons (pe_op op_add (pe_op op_mulX pe_int (pv 2)) pe_int) pa_nil))) (pv 2)))
  (pss_cons (ps_set (i := 4) sc__law_parts_drawn.nd rfl (by first | exact Or.inl rfl | exact Or.inr rfl) (pe_ifExp (pt_cmpR op_eq (pv 1) pe_int (nomark _)) pe_int (pe_op op_sub (pe_c1 G__law_roll (hr.mono (by decide)) (pa_cons (pv 0) (pa_cons (pe_op op_add (pe_op op_mulX pe_int (pv 2)) pe_int) pa_nil))) (pv 2))))
  (pss_one (ps_ret (pe_tup (pa_cons (pv 3) (pa_cons (pv 4) (pa_cons (pv 1) (pa_cons (pe_c1 G__law_pick (hr.mono (by decide)) (pa_cons (pv 0) (pa_cons (pe_lst (pa_cons pe_int (pa_cons pe_int (pa_cons pe_int (pa_cons pe_int (pa_cons (pe_un un_neg pe_int) (pa_cons pe_int (pa_cons (pe_un un_neg pe_int) (pa_cons pe_int (pa_cons (pe_op op_add pe_int (pe_c1 G__law_roll (hr.mono (by decide)) (pa_cons (pv 0) (pa_cons (pv 2) pa_nil)))) pa_nil)))))))))) pa_nil))) pa_nil)))))))))), ?_⟩)
  refine fn_bodyD (X := E) (S := (aCons rInt aNil)) (E' := eNil) (R := (rTx K (aCons rInt (aCons rInt (aCons rInt (aCons rInt aNil)))))) (st_dice (st_par (st_un (st_un (st_un st_nil))))) rfl (s_seq (s_asg (e_pick get0 (SN.se (n_lst (hom_cons (hom_cons (hom_cons (hom_cons (hom_cons hom_nil))))) (a_cons e_int (a_cons e_int (a_cons e_int (a_cons (e_op (o_iiC fun _ _ => rfl) e_int e_int) (a_cons (e_op (o_iiC fun _ _ => rfl) e_int e_int) a_nil))))) (le_n 5)))) (g_name pu2))
  (s_seq (s_asg (e_op (o_ii fun _ _ => rfl) (e_roll get0 (e_op (o_ii fun _ _ => rfl) (e_op (o_iiC fun _ _ => rfl) e_int (e_var gt2)) e_int)) (e_var gt2)) (g_name pu3))
  (s_seq (s_asg (e_if (t_of (e_op (o_eq sc_int) (e_var gt1) e_int)) e_int (e_op (o_ii fun _ _ => rfl) (e_roll get0 (e_op (o_ii fun _ _ => rfl) (e_op (o_iiC fun _ _ => rfl) e_int (e_var gt2)) e_int)) (e_var gt2))) (g_name pu4))
  (s_ret (e_tup (a_cons (e_var gt3) (a_cons (e_var gt4) (a_cons (e_var gt1) (a_cons (e_pick get0 (SN.se (n_lst (hom_cons (hom_cons (hom_cons (hom_cons (hom_cons (hom_cons (hom_cons (hom_cons (hom_cons hom_nil))))))))) (a_cons e_int (a_cons e_int (a_cons e_int (a_cons e_int (a_cons (e_un (u_ii fun _ => rfl) e_int) (a_cons e_int (a_cons (e_un (u_ii fun _ => rfl) e_int) (a_cons e_int (a_cons (e_op (o_ii fun _ _ => rfl) e_int (e_roll get0 (e_var gt2))) a_nil))))))))) (le_n 9)))) a_nil)))) (le_n 4)))))) ?_
  exact h
theorem sc__law_made : FnScope ["_law_parts"] ["_law_parts"] (defScope (topS 32)) := ⟨rfl, rfl, rfl, by decide +kernel, rfl, by decide +kernel, by decide +kernel⟩
noncomputable def b__law_made (ρ : ((Int × (Int × (Int × (Int × Unit)))) × Unit)) : M (Ct Unit Unit Nm) := (M.bind (M.bind (M.bind (M.ret ρ.1) fun x130 => M.ret x130.1) fun x134 => M.bind (M.bind (M.ret ρ.1) fun x131 => M.ret x131.2.1) fun x135 => M.bind (M.bind (M.ret ρ.1) fun x132 => M.ret x132.2.2.1) fun x136 => M.bind (M.bind (M.ret ρ.1) fun x133 => M.ret x133.2.2.2.1) fun x137 => M.need (x137 ≠ 0 ∧ okRoot x136 x135 ∧ Bd 9000 x137) (M.ret (mkNm x134 x135 x136 x137))) fun x138 => M.ret (.rt x138))
noncomputable def m__law_made (a : ((Int × (Int × (Int × (Int × Unit)))) × Unit)) : M Nm := M.fin (b__law_made (a.1, ()))
theorem ok__law_made (F : Fun K "_law_made" "_law_made" (topS 32) f fd) (G_NumberK : GMK P w K mg base "Number" CN 6 2 ["root", "bottom"] (spNumI CN CF)) : FnOk P w K mg base CX0 8 f fd ["_law_parts"] (spOf (aCons (rTx K (aCons rInt (aCons rInt (aCons rInt (aCons rInt aNil))))) aNil) (rNum CN) m__law_made) := by
  refine F.ok sc__law_made (fun vs H Q E h => spOf_len h) (fun cdv A outer s H vs Q E hr h => ⟨_, (pss_one (ps_ret (pe_mk G_NumberK (hr.mono (by decide)) (pa_cons (pe_ix (ix_tup : IxR _ (rIxT K)) (pv 0) pe_int (fun _ _ => rfl)) (pa_cons (pe_ix (ix_tup : IxR _ (rIxT K)) (pv 0) pe_int (fun _ _ => rfl)) pa_nil)) (pk_cons (pe_ix (ix_tup : IxR _ (rIxT K)) (pv 0) pe_int (fun _ _ => rfl)) (pk_cons (pe_ix (ix_tup : IxR _ (rIxT K)) (pv 0) pe_int (fun _ _ => rfl)) pk_nil))))), ?_⟩)
  refine fn_body (X := E) (S := (aCons (rTx K (aCons rInt (aCons rInt (aCons rInt (aCons rInt aNil))))) aNil)) (E' := eNil) (R := (rNum CN)) (st_par st_nil) rfl (s_ret (e_mkNum4 (e_ixX (i := 0) rget0 (e_var get0)) (e_ixX (i := 1) (rgetS rget0) (e_var get0)) (e_ixX (i := 2) (rgetS (rgetS rget0)) (e_var get0)) (e_ixX (i := 3) (rgetS (rgetS (rgetS rget0))) (e_var get0)))) ?_
  exact h
theorem sc__law_form : FnScope ["_law_number"] ["_law_number"] (defScope (topS 33)) := ⟨rfl, rfl, rfl, by decide +kernel, rfl, by decide +kernel, by decide +kernel⟩
noncomputable def b__law_form (ρ : (Nm × Unit)) : M (Ct Unit Unit (Int × (Int × (Int × (Int × Unit))))) := (M.bind (M.bind (M.bind (M.ret ρ.1) fun x139 => M.ret ((fun n => n.t) x139)) fun x149 => M.bind (M.bind (M.bind (M.ret ρ.1) fun x140 => M.ret ((fun n => n.p) x140)) fun x147 => M.bind (M.bind (M.bind (M.ret ρ.1) fun x141 => M.ret ((fun n => n.r) x141)) fun x145 => M.bind (M.bind (M.bind (M.ret ρ.1) fun x142 => M.ret ((fun n => n.b) x142)) fun x143 => M.bind (M.ret ()) fun x144 => M.ret (x143, x144)) fun x146 => M.ret (x145, x146)) fun x148 => M.ret (x147, x148)) fun x150 => M.ret (x149, x150)) fun x152 => M.ret (.rt x152))
noncomputable def m__law_form (a : (Nm × Unit)) : M (Int × (Int × (Int × (Int × Unit)))) := M.fin (b__law_form (a.1, ()))
theorem ok__law_form (F : Fun K "_law_form" "_law_form" (topS 33) f fd) (TN : NTxt K mg CN CF) (P_top : GP P w K mg base CN "top" 2 (spInt0 CN fun n => n.t)) (P_part : GP P w K mg base CN "part" 2 (spInt0 CN fun n => n.p)) (P_root : GP P w K mg base CN "root" 2 (spInt0 CN fun n => n.r)) (P_bottom : GP P w K mg base CN "bottom" 2 (spInt0 CN fun n => n.b)) : FnOk P w K mg base CX0 4 f fd ["_law_number"] (spOf (aCons (rNum CN) aNil) (rTx K (aCons rInt (aCons rInt (aCons rInt (aCons rInt aNil))))) m__law_form) := by
  refine F.ok sc__law_form (fun vs H Q E h => spOf_len h) (fun cdv A outer s H vs Q E hr h => ⟨_, (pss_one (ps_ret (pe_tup (pa_cons (pe_p1 TN.cN P_top (hr.mono (by decide)) (pv 0)) (pa_cons (pe_p1 TN.cN P_part (hr.mono (by decide)) (pv 0)) (pa_cons (pe_p1 TN.cN P_root (hr.mono (by decide)) (pv 0)) (pa_cons (pe_p1 TN.cN P_bottom (hr.mono (by decide)) (pv 0)) pa_nil))))))), ?_⟩)
  refine fn_body (X := E) (S := (aCons (rNum CN) aNil)) (E' := eNil) (R := (rTx K (aCons rInt (aCons rInt (aCons rInt (aCons rInt aNil)))))) (st_par st_nil) rfl (s_ret (e_tup (a_cons (e_numInt0 (e_var get0)) (a_cons (e_numInt0 (e_var get0)) (a_cons (e_numInt0 (e_var get0)) (a_cons (e_numInt0 (e_var get0)) a_nil)))) (le_n 4))) ?_
  exact h
theorem sc__law_text : FnScope ["_law_form_here", "_law_top", "_law_part", "_law_root", "_law_bottom", "_law_under", "_law_side", "_law_whole"] ["_law_form_here"] (defScope (topS 34)) := ⟨rfl, rfl, rfl, by decide +kernel, rfl, by decide +kernel, by decide +kernel⟩
noncomputable def b__law_text (ρ : ((Int × (Int × (Int × (Int × Unit)))) × (Unit × (Unit × (Unit × (Unit × (Unit × (Unit × (Unit × Unit))))))))) : M (Ct Unit Unit Str) := (M.thn (M.bind (M.ret ρ.1) fun x153 => M.ret (.nx (ρ.1, x153.1, x153.2.1, x153.2.2.1, x153.2.2.2.1, ρ.2.2.2.2.2.1, ρ.2.2.2.2.2.2.1, ρ.2.2.2.2.2.2.2.1, ρ.2.2.2.2.2.2.2.2))) fun ρ => (M.thn (M.bind (M.bind (M.bind (M.ret ρ.2.2.2.2.1) fun x154 => M.bind (M.ret (1 : Int)) fun x155 => M.ret (decide (x154 = x155))) fun x161 => M.ifb x161 (M.ret ("" : Str)) (M.bind (M.ret ("/" : Str)) fun x159 => M.bind (M.bind (M.bind (M.ret ρ.2.2.2.2.1) fun x156 => M.bind (M.ret ()) fun x157 => M.ret (x156, x157)) fun r158 => M.need (Nat.log2 (Int.natAbs r158.1) < 1920) (M.ret (Str.ofString (toString r158.1)))) fun x160 => M.need (Str.length x159 + Str.length x160 ≤ sizeLine) (M.ret (x159 ++ x160)))) fun x162 => M.ret (.nx (ρ.1, ρ.2.1, ρ.2.2.1, ρ.2.2.2.1, ρ.2.2.2.2.1, x162, ρ.2.2.2.2.2.2))) fun ρ => (M.thn (M.bind (M.bind (M.ret ρ.2.2.1) fun x163 => M.bind (M.ret (0 : Int)) fun x164 => M.ret (decide (x163 = x164))) fun x171 => M.ifb x171 (M.bind (M.bind (M.bind (M.bind (M.ret ρ.2.1) fun x165 => M.bind (M.ret ()) fun x166 => M.ret (x165, x166)) fun r167 => M.need (Nat.log2 (Int.natAbs r167.1) < 1920) (M.ret (Str.ofString (toString r167.1)))) fun x168 => M.bind (M.ret ρ.2.2.2.2.2.1) fun x169 => M.need (Str.length x168 + Str.length x169 ≤ sizeLine) (M.ret (x168 ++ x169))) fun x170 => M.ret (.rt x170)) (M.ret (.nx ρ))) fun ρ => (M.thn (M.bind (M.bind (M.bind (M.bind (M.bind (M.ret ρ.2.2.1) fun x172 => M.bind (M.ret ()) fun x173 => M.ret (x172, x173)) fun r174 => M.need (Nat.log2 (Int.natAbs r174.1) < 1920) (M.ret (Str.ofString (toString r174.1)))) fun x175 => M.bind (M.ret ("r" : Str)) fun x176 => M.need (Str.length x175 + Str.length x176 ≤ sizeLine) (M.ret (x175 ++ x176))) fun x180 => M.bind (M.bind (M.bind (M.ret ρ.2.2.2.1) fun x177 => M.bind (M.ret ()) fun x178 => M.ret (x177, x178)) fun r179 => M.need (Nat.log2 (Int.natAbs r179.1) < 1920) (M.ret (Str.ofString (toString r179.1)))) fun x181 => M.need (Str.length x180 + Str.length x181 ≤ sizeLine) (M.ret (x180 ++ x181))) fun x182 => M.ret (.nx (ρ.1, ρ.2.1, ρ.2.2.1, ρ.2.2.2.1, ρ.2.2.2.2.1, ρ.2.2.2.2.2.1, x182, ρ.2.2.2.2.2.2.2))) fun ρ => (M.thn (M.bind (M.bind (M.ret ρ.2.1) fun x183 => M.bind (M.ret (0 : Int)) fun x184 => M.ret (decide (x183 = x184))) fun x188 => M.ifb x188 (M.bind (M.bind (M.ret ρ.2.2.2.2.2.2.1) fun x185 => M.bind (M.ret ρ.2.2.2.2.2.1) fun x186 => M.need (Str.length x185 + Str.length x186 ≤ sizeLine) (M.ret (x185 ++ x186))) fun x187 => M.ret (.rt x187)) (M.ret (.nx ρ))) fun ρ => (M.thn (M.bind (M.bind (M.bind (M.bind (M.bind (M.ret ρ.2.1) fun x189 => M.bind (M.ret ()) fun x190 => M.ret (x189, x190)) fun r191 => M.need (Nat.log2 (Int.natAbs r191.1) < 1920) (M.ret (Str.ofString (toString r191.1)))) fun x195 => M.bind (M.bind (M.bind (M.ret ρ.2.2.1) fun x192 => M.bind (M.ret (0 : Int)) fun x193 => M.ret (decide (x193 < x192))) fun x194 => M.ifb x194 (M.ret ("+" : Str)) (M.ret ("" : Str))) fun x196 => M.need (Str.length x195 + Str.length x196 ≤ sizeLine) (M.ret (x195 ++ x196))) fun x197 => M.bind (M.ret ρ.2.2.2.2.2.2.1) fun x198 => M.need (Str.length x197 + Str.length x198 ≤ sizeLine) (M.ret (x197 ++ x198))) fun x199 => M.ret (.nx (ρ.1, ρ.2.1, ρ.2.2.1, ρ.2.2.2.1, ρ.2.2.2.2.1, ρ.2.2.2.2.2.1, ρ.2.2.2.2.2.2.1, x199, ρ.2.2.2.2.2.2.2.2))) fun ρ => (M.bind (M.bind (M.bind (M.ret ρ.2.2.2.2.1) fun x200 => M.bind (M.ret (1 : Int)) fun x201 => M.ret (decide (x200 = x201))) fun x208 => M.ifb x208 (M.ret ρ.2.2.2.2.2.2.2.1) (M.bind (M.bind (M.bind (M.ret ("(" : Str)) fun x202 => M.bind (M.ret ρ.2.2.2.2.2.2.2.1) fun x203 => M.need (Str.length x202 + Str.length x203 ≤ sizeLine) (M.ret (x202 ++ x203))) fun x204 => M.bind (M.ret (")" : Str)) fun x205 => M.need (Str.length x204 + Str.length x205 ≤ sizeLine) (M.ret (x204 ++ x205))) fun x206 => M.bind (M.ret ρ.2.2.2.2.2.1) fun x207 => M.need (Str.length x206 + Str.length x207 ≤ sizeLine) (M.ret (x206 ++ x207)))) fun x209 => M.ret (.rt x209))))))))
noncomputable def m__law_text (a : ((Int × (Int × (Int × (Int × Unit)))) × Unit)) : M Str := M.fin (b__law_text (a.1, ((), ((), ((), ((), ((), ((), ((), ())))))))))
theorem ok__law_text (F : Fun K "_law_text" "_law_text" (topS 34) f fd) (fr : Free mg) : FnOk P w K mg base CX0 2 f fd ["_law_form_here"] (spOf (aCons (rTx K (aCons rInt (aCons rInt (aCons rInt (aCons rInt aNil))))) aNil) rStr m__law_text) := by
  refine F.ok sc__law_text (fun vs H Q E h => spOf_len h) (fun cdv A outer s H vs Q E hr h => ⟨_, (pss_cons (ps_asg (pv 0) (pg_tup (by rfl) (pgs_cons (pg_name (i := 1) sc__law_text.nd rfl (by first | exact Or.inl rfl | exact Or.inr rfl)) (pgs_cons (pg_name (i := 2) sc__law_text.nd rfl (by first | exact Or.inl rfl | exact Or.inr rfl)) (pgs_cons (pg_name (i := 3) sc__law_text.nd rfl (by first | exact Or.inl rfl | exact Or.inr rfl)) (pgs_cons (pg_name (i := 4) sc__law_text.nd rfl (by first | exact Or.inl rfl | exact Or.inr rfl)) pgs_nil))))))
  (pss_cons (ps_set (i := 5) sc__law_text.nd rfl (by first | exact Or.inl rfl | exact Or.inr rfl) (pe_ifExp (pt_cmpR op_eq (pv 4) pe_int (nomark _)) pe_str (pe_op op_add_str pe_str (pe_callTy call_str_int (by rfl) fr.b_str (by decide +kernel) (pa_cons (pv 4) pa_nil)))))
  (pss_cons (ps_if (pt_cmpR op_eq (pv 2) pe_int (nomark _)) (pss_one (ps_ret (pe_op op_add_str (pe_callTy call_str_int (by rfl) fr.b_str (by decide +kernel) (pa_cons (pv 1) pa_nil)) (pv 5)))) pss_nil)
  (pss_cons (ps_set (i := 6) sc__law_text.nd rfl (by first | exact Or.inl rfl | exact Or.inr rfl) (pe_op op_add_str (pe_op op_add_str (pe_callTy call_str_int (by rfl) fr.b_str (by decide +kernel) (pa_cons (pv 2) pa_nil)) pe_str) (pe_callTy call_str_int (by rfl) fr.b_str (by decide +kernel) (pa_cons (pv 3) pa_nil))))
  (pss_cons (ps_if (pt_cmpR op_eq (pv 1) pe_int (nomark _)) (pss_one (ps_ret (pe_op op_add_str (pv 6) (pv 5)))) pss_nil)
  (pss_cons (ps_set (i := 7) sc__law_text.nd rfl (by first | exact Or.inl rfl | exact Or.inr rfl) (pe_op op_add_str (pe_op op_add_str (pe_callTy call_str_int (by rfl) fr.b_str (by decide +kernel) (pa_cons (pv 1) pa_nil)) (pe_ifExp (pt_cmpR op_gt (pv 2) pe_int (nomark _)) pe_str pe_str)) (pv 6)))
  (pss_one (ps_ret (pe_ifExp (pt_cmpR op_eq (pv 4) pe_int (nomark _)) (pv 7) (pe_op op_add_str (pe_op op_add_str (pe_op op_add_str pe_str (pv 7)) pe_str) (pv 5))))))))))), ?_⟩)
  refine fn_body (X := E) (S := (aCons (rTx K (aCons rInt (aCons rInt (aCons rInt (aCons rInt aNil))))) aNil)) (E' := eNil) (R := rStr) (st_par (st_un (st_un (st_un (st_un (st_un (st_un (st_un st_nil)))))))) rfl (s_seq (s_asg (e_var get0) (g_tup (gs_cons (g_name pu1) (gs_cons (g_name pu2) (gs_cons (g_name pu3) (gs_cons (g_name pu4) gs_nil)))) rfl))
  (s_seq (s_asg (e_if (t_of (e_op (o_eq sc_int) (e_var gt4) e_int)) e_str (e_op o_addS e_str (e_ca c_strI (a_cons (e_var gt4) a_nil)))) (g_name pu5))
  (s_seq (s_if (t_of (e_op (o_eq sc_int) (e_var gt2) e_int)) (s_ret (e_op o_addS (e_ca c_strI (a_cons (e_var gt1) a_nil)) (e_var gt5))) s_nil)
  (s_seq (s_asg (e_op o_addS (e_op o_addS (e_ca c_strI (a_cons (e_var gt2) a_nil)) e_str) (e_ca c_strI (a_cons (e_var gt3) a_nil))) (g_name pu6))
  (s_seq (s_if (t_of (e_op (o_eq sc_int) (e_var gt1) e_int)) (s_ret (e_op o_addS (e_var gt6) (e_var gt5))) s_nil)
  (s_seq (s_asg (e_op o_addS (e_op o_addS (e_ca c_strI (a_cons (e_var gt1) a_nil)) (e_if (t_of (e_op (o_ib fun _ _ => rfl) (e_var gt2) e_int)) e_str e_str)) (e_var gt6)) (g_name pu7))
  (s_ret (e_if (t_of (e_op (o_eq sc_int) (e_var gt4) e_int)) (e_var gt7) (e_op o_addS (e_op o_addS (e_op o_addS e_str (e_var gt7)) e_str) (e_var gt5)))))))))) ?_
  exact h
theorem sc__law_integer : FnScope ["_law_text_here", "_law_figures", "_law_sign"] ["_law_text_here"] (defScope (topS 35)) := ⟨rfl, rfl, rfl, by decide +kernel, rfl, by decide +kernel, by decide +kernel⟩
noncomputable def b__law_integer (ρ : (Str × (Unit × (Unit × Unit)))) : M (Ct Unit Unit (Option Int)) := (M.thn (M.bind (M.bind (M.bind (M.bind (M.ret ρ.1) fun x211 => M.bind (M.ret (none : Option Int)) fun x212 => M.bind (M.bind (M.ret (1 : Int)) fun x210 => M.ret (some x210)) fun x213 => M.need (Str.length x211 ≤ sizeLine) (M.ret (cutS x211 x212 x213))) fun x214 => M.bind (M.ret ("-" : Str)) fun x215 => M.ret (decide (x214 = x215))) fun x220 => M.ifb x220 (M.bind (M.ret ρ.1) fun x217 => M.bind (M.bind (M.ret (1 : Int)) fun x216 => M.ret (some x216)) fun x218 => M.bind (M.ret (none : Option Int)) fun x219 => M.need (Str.length x217 ≤ sizeLine) (M.ret (cutS x217 x218 x219))) (M.ret ρ.1)) fun x221 => M.ret (.nx (ρ.1, x221, ρ.2.2))) fun ρ => (M.thn (M.bind (M.bind (M.bind (M.ret ρ.2.1) fun x222 => M.bind (M.ret ("" : Str)) fun x223 => M.ret (decide (x222 = x223))) fun x234 => M.ifb x234 (M.ret true) (M.bind (M.bind (M.bind (M.ret ρ.2.1) fun x224 => M.ret (PF.signs x224)) fun l228 => M.need (l228.length ≤ 1000000) (M.lcM l228 fun (a229 : Str) => M.bind ((fun ρ => (M.bind (M.ret ρ.2.2.1) fun x225 => M.bind (M.ret ("0123456789" : Str)) fun x226 => M.ret (!(inStr x225 x226)))) (ρ.1, ρ.2.1, a229, ρ.2.2.2)) fun (b230 : Bool) => M.ifb b230 (M.bind ((fun ρ => (M.ret ρ.2.2.1)) (ρ.1, ρ.2.1, a229, ρ.2.2.2)) fun (y231 : Str) => M.ret (some y231)) (M.ret none))) fun x232 => M.bind (M.bind (M.ret ()) fun _ => M.ret ([] : (List Str))) fun x233 => M.need (((fun (xs : (List Str)) => PyData.list (xs.map PyData.str)) x232).canLay0 = true ∧ ((fun (xs : (List Str)) => PyData.list (xs.map PyData.str)) x233).canLay0 = true) (M.ret (!PyData.eqv ((fun (xs : (List Str)) => PyData.list (xs.map PyData.str)) x232) ((fun (xs : (List Str)) => PyData.list (xs.map PyData.str)) x233))))) fun x237 => M.ifb x237 (M.bind (M.bind (M.ret ()) fun x235 => M.ret (none : (Option Int))) fun x236 => M.ret (.rt x236)) (M.ret (.nx ρ))) fun ρ => (M.bind (M.bind (M.bind (M.bind (M.bind (M.bind (M.bind (M.ret ρ.1) fun x238 => M.bind (M.ret ()) fun x239 => M.ret (x238, x239)) fun r240 => M.need (Str.length r240.1 ≤ sizeLine) (M.the (PySem.intText? r240.1))) fun x241 => M.bind (M.ret ()) fun x242 => M.ret (x241, x242)) fun r243 => M.need (Nat.log2 (Int.natAbs r243.1) < 1920) (M.ret (Str.ofString (toString r243.1)))) fun x244 => M.bind (M.ret ρ.1) fun x245 => M.ret (decide (x244 = x245))) fun x251 => M.ifb x251 (M.bind (M.bind (M.bind (M.ret ρ.1) fun x246 => M.bind (M.ret ()) fun x247 => M.ret (x246, x247)) fun r248 => M.need (Str.length r248.1 ≤ sizeLine) (M.the (PySem.intText? r248.1))) fun x249 => M.ret (some x249)) (M.bind (M.ret ()) fun x250 => M.ret (none : (Option Int)))) fun x252 => M.ret (.rt x252))))
noncomputable def m__law_integer (a : (Str × Unit)) : M (Option Int) := M.fin (b__law_integer (a.1, ((), ((), ()))))
theorem ok__law_integer (F : Fun K "_law_integer" "_law_integer" (topS 35) f fd) (yd : PySem.W.nsIn K cStatics "sys.int_max_str_digits" = some none) (fr : Free mg) : FnOk P w K mg base CX0 2 f fd ["_law_text_here"] (spOf (aCons rStr aNil) (rOpt rInt) m__law_integer) := by
  refine F.ok sc__law_integer (fun vs H Q E h => spOf_len h) (fun cdv A outer s H vs Q E hr h => ⟨_, (pss_cons (ps_set (i := 1) sc__law_integer.nd rfl (by first | exact Or.inl rfl | exact Or.inr rfl) (pe_ifExp (pt_cmpR op_eq (pe_slice sl_str (pv 0) po_none (po_some pe_int)) pe_str (nomark _)) (pe_slice sl_str (pv 0) (po_some pe_int) po_none) (pv 0)))
  (pss_cons (ps_if (PW.pt (pw_or (pt_cmpR op_eq (pv 1) pe_str (nomark _)) (pw_or1 (pt_cmpR (op_neD (have h := hu64 hr; h) : OpR _ _ (rNeD K)) (pe_lc (own := [("_law_sign", 2)]) (by rfl) sc__law_integer.nd  (pi_str (pv 1)) (blkOk_by (own := [("_law_sign", 2)]) (N := ["_law_text_here", "_law_figures", "_law_sign"]) (sc := defScope (topS 35)) (by decide +kernel)) (fun _ _ _ _ _ => (pg_name (i := 2) sc__law_integer.nd rfl (by first | exact Or.inl rfl | exact Or.inr rfl))) (fun _ _ _ _ _ => (pts_one (pt_cmpR (op_niS : OpR _ _ rNiS) (pv 2) pe_str (by rfl)))) (fun _ _ _ _ _ => (pv 2))) (pe_lst pa_nil) (nomark _))))) (pss_one (ps_ret pe_non)) pss_nil)
  (pss_one (ps_ret (pe_ifExp (pt_cmpR op_eq (pe_callTy call_str_int (by rfl) fr.b_str (by decide +kernel) (pa_cons (pe_callTy (call_int_strB yd) (by rfl) fr.b_int (by decide +kernel) (pa_cons (pv 0) pa_nil)) pa_nil)) (pv 0) (nomark _)) (pe_callTy (call_int_strB yd) (by rfl) fr.b_int (by decide +kernel) (pa_cons (pv 0) pa_nil)) pe_non))))), ?_⟩)
  refine fn_body (X := E) (S := (aCons rStr aNil)) (E' := eNil) (R := (rOpt rInt)) (st_par (st_un (st_un st_nil))) rfl (s_seq (s_asg (e_if (t_of (e_op (o_eq sc_str) (e_sl sl_S (e_var get0) so_none (so_some e_int)) e_str)) (e_sl sl_S (e_var get0) (so_some e_int) so_none) (e_var get0)) (g_name pu1))
  (s_seq (s_if (t_or (t_of (e_op (o_eq sc_str) (e_var gt1) e_str)) (t_of (e_op (o_neD (da := (fun (xs : (List Str)) => PyData.list (xs.map PyData.str))) (db := (fun (xs : (List Str)) => PyData.list (xs.map PyData.str))) (dp_ls dp_str) (dp_ls dp_str)) (SN.se (n_lc (i_str (e_var gt1)) (gw_name pu2) (t_of (e_op o_niS (e_var gt2) e_str)) (e_var gt2))) (SN.se (n_lst (Ra := rStr) hom_nil a_nil (le_n 0)))))) (s_ret (e_coeX (Rb := (rOpt rInt)) coe_none e_non)) s_nil)
  (s_ret (e_if (t_of (e_op (o_eq sc_str) (e_ca c_strI (a_cons (e_ca c_intSB (a_cons (e_var get0) a_nil)) a_nil)) (e_var get0))) (e_coeX (coe_some nn_int) (e_ca c_intSB (a_cons (e_var get0) a_nil))) (e_coeX (Rb := (rOpt rInt)) coe_none e_non))))) ?_
  exact h
theorem sc__law_free_of_squares : FnScope ["_law_root", "_law_side"] ["_law_root"] (defScope (topS 36)) := ⟨rfl, rfl, rfl, by decide +kernel, rfl, by decide +kernel, by decide +kernel⟩
noncomputable def b__law_free_of_squares (ρ : (Int × (Unit × Unit))) : M (Ct Unit Unit Bool) := (M.bind (M.bind (M.bind (M.ret (2 : Int)) fun x253 => M.bind (M.ret ρ.1) fun x254 => M.bind (M.ret (decide (x253 ≤ x254))) fun (k255 : Bool) => M.ifb k255 (M.bind (M.ret (999 : Int)) fun x256 => M.ret (decide (x254 ≤ x256))) (M.ret false)) fun x275 => M.ifb x275 (M.bind (M.bind (M.bind (M.ret (2 : Int)) fun x257 => M.bind (M.ret (32 : Int)) fun x258 => M.need (-(2 ^ 62) ≤ x257 ∧ x257 < 2 ^ 62 ∧ -(2 ^ 62) ≤ x258 ∧ x258 < 2 ^ 62) (M.ret (rng x257 x258))) fun l269 => M.need (l269.length ≤ 1000000) (M.lcM l269 fun (a270 : Int) => M.bind ((fun ρ => (M.bind (M.bind (M.bind (M.bind (M.ret ρ.1) fun x259 => M.bind (M.ret ()) fun x260 => M.ret (x259, x260)) fun r261 => M.ret r261.1) fun x264 => M.bind (M.bind (M.ret ρ.2.1) fun x262 => M.bind (M.ret ρ.2.1) fun x263 => M.need (CMulX x262 x263) (M.ret (x262 * x263))) fun x265 => M.need (x265 ≠ 0) (M.ret (Int.fmod x264 x265))) fun x266 => M.bind (M.ret (0 : Int)) fun x267 => M.ret (decide (x266 = x267)))) (ρ.1, a270, ρ.2.2)) fun (b271 : Bool) => M.ifb b271 (M.bind ((fun ρ => (M.ret ρ.2.1)) (ρ.1, a270, ρ.2.2)) fun (y272 : Int) => M.ret (some y272)) (M.ret none))) fun x273 => M.bind (M.bind (M.ret ()) fun _ => M.ret ([] : (List Int))) fun x274 => M.need (((fun (xs : (List Int)) => PyData.list (xs.map PyData.int)) x273).canLay0 = true ∧ ((fun (xs : (List Int)) => PyData.list (xs.map PyData.int)) x274).canLay0 = true) (M.ret (PyData.eqv ((fun (xs : (List Int)) => PyData.list (xs.map PyData.int)) x273) ((fun (xs : (List Int)) => PyData.list (xs.map PyData.int)) x274)))) (M.ret false)) fun x276 => M.ret (.rt x276))
noncomputable def m__law_free_of_squares (a : (Int × Unit)) : M Bool := M.fin (b__law_free_of_squares (a.1, ((), ())))
theorem ok__law_free_of_squares (F : Fun K "_law_free_of_squares" "_law_free_of_squares" (topS 36) f fd) (fr : Free mg) : FnOk P w K mg base CX0 2 f fd ["_law_root"] (spOf (aCons rInt aNil) rBl m__law_free_of_squares) := by
  refine F.ok sc__law_free_of_squares (fun vs H Q E h => spOf_len h) (fun cdv A outer s H vs Q E hr h => ⟨_, (pss_one (ps_ret (pe_and (pe_chain op_le op_le pe_int (pv 0) pe_int) (pe_one (pe_cmpR (op_eqD (have h := hu64 hr; h) : OpR _ _ (rEqD K)) (pe_lc (own := [("_law_side", 1)]) (by rfl) sc__law_free_of_squares.nd  (pi_range2 (by rfl) fr.b_range (pa_cons pe_int (pa_cons pe_int pa_nil))) (blkOk_by (own := [("_law_side", 1)]) (N := ["_law_root", "_law_side"]) (sc := defScope (topS 36)) (by decide +kernel)) (fun _ _ _ _ _ => (pg_name (i := 1) sc__law_free_of_squares.nd rfl (by first | exact Or.inl rfl | exact Or.inr rfl))) (fun _ _ _ _ _ => (pts_one (pt_cmpR op_eq (pe_op op_modN (pe_callTy call_int1 (by rfl) fr.b_int (by decide +kernel) (pa_cons (pv 0) pa_nil)) (pe_op op_mulX (pv 1) (pv 1))) pe_int (nomark _)))) (fun _ _ _ _ _ => (pv 1))) (pe_lst pa_nil) (nomark _)))))), ?_⟩)
  refine fn_body (X := E) (S := (aCons rInt aNil)) (E' := eNil) (R := rBl) (st_par (st_un st_nil)) rfl (s_ret (e_and (e_chain (o_ib fun _ _ => rfl) (o_ib fun _ _ => rfl) e_int (e_var get0) e_int) (e_op (o_eqD (da := (fun (xs : (List Int)) => PyData.list (xs.map PyData.int))) (db := (fun (xs : (List Int)) => PyData.list (xs.map PyData.int))) (dp_ls dp_int) (dp_ls dp_int)) (SN.se (n_lc (i_rng2 e_int e_int) (gw_name pu1) (t_of (e_op (o_eq sc_int) (e_op (o_iiC fun _ _ => rfl) (e_ca c_intI (a_cons (e_var get0) a_nil)) (e_op (o_iiC fun _ _ => rfl) (e_var gt1) (e_var gt1))) e_int)) (e_var gt1))) (SN.se (n_lst (Ra := rInt) hom_nil a_nil (le_n 0)))))) ?_
  exact h
theorem sc__law_sides : FnScope ["_law_body", "_law_ahead", "_law_behind", "_law_places", "_law_at"] ["_law_body"] (defScope (topS 37)) := ⟨rfl, rfl, rfl, by decide +kernel, rfl, by decide +kernel, by decide +kernel⟩
noncomputable def b__law_sides (ρ : (Str × (Unit × (Unit × (Unit × (Unit × Unit)))))) : M (Ct Unit Unit (Str × (Str × (Str × Unit)))) := (M.thn (M.bind (M.bind (M.bind (M.ret ρ.1) fun x277 => M.bind (M.ret ("r" : Str)) fun x278 => M.need ((Str.length x278 == 0) = false ∧ Str.length x277 + 2 ≤ sizeLine) (M.ret (Txt.split x277 x278))) fun x279 => M.the ((lxS (lxS lx0)) x279)) fun x280 => M.ret (.nx (ρ.1, x280.1, x280.2.1, ρ.2.2.2.1, ρ.2.2.2.2.1, ρ.2.2.2.2.2))) fun ρ => (M.thn (M.bind (M.bind (M.bind (M.ret (1 : Int)) fun x284 => M.bind (M.bind (M.bind (M.ret ρ.2.1) fun x281 => M.bind (M.ret ()) fun x282 => M.ret (x281, x282)) fun r283 => M.need (Str.length r283.1 ≤ sizeLine) (M.ret (Str.length r283.1 : Int))) fun x285 => M.need (-(2 ^ 62) ≤ x284 ∧ x284 < 2 ^ 62 ∧ -(2 ^ 62) ≤ x285 ∧ x285 < 2 ^ 62) (M.ret (rng x284 x285))) fun l291 => M.need (l291.length ≤ 1000000) (M.lcM l291 fun (a292 : Int) => M.bind ((fun ρ => (M.bind (M.bind (M.ret ρ.2.1) fun x286 => M.bind (M.ret ρ.2.2.2.2.1) fun x287 => M.need (x286.length ≤ sizeLine) (M.bind (M.the (atI x286.cps.toList x287)) fun (c : Nat) => M.ret (⟨#[c]⟩ : Str))) fun x288 => M.bind (M.ret ("+-" : Str)) fun x289 => M.ret (inStr x288 x289))) (ρ.1, ρ.2.1, ρ.2.2.1, ρ.2.2.2.1, a292, ρ.2.2.2.2.2)) fun (b293 : Bool) => M.ifb b293 (M.bind ((fun ρ => (M.ret ρ.2.2.2.2.1)) (ρ.1, ρ.2.1, ρ.2.2.1, ρ.2.2.2.1, a292, ρ.2.2.2.2.2)) fun (y294 : Int) => M.ret (some y294)) (M.ret none))) fun x295 => M.ret (.nx (ρ.1, ρ.2.1, ρ.2.2.1, x295, ρ.2.2.2.2))) fun ρ => (M.thn (M.bind (M.bind (M.ret ρ.2.2.2.1) fun x296 => M.bind (M.bind (M.ret ()) fun _ => M.ret ([] : (List Int))) fun x297 => M.need (((fun (xs : (List Int)) => PyData.list (xs.map PyData.int)) x296).canLay0 = true ∧ ((fun (xs : (List Int)) => PyData.list (xs.map PyData.int)) x297).canLay0 = true) (M.ret (PyData.eqv ((fun (xs : (List Int)) => PyData.list (xs.map PyData.int)) x296) ((fun (xs : (List Int)) => PyData.list (xs.map PyData.int)) x297)))) fun x306 => M.ifb x306 (M.bind (M.bind (M.ret ("" : Str)) fun x302 => M.bind (M.bind (M.ret ρ.2.1) fun x300 => M.bind (M.bind (M.ret ρ.2.2.1) fun x298 => M.bind (M.ret ()) fun x299 => M.ret (x298, x299)) fun x301 => M.ret (x300, x301)) fun x303 => M.ret (x302, x303)) fun x305 => M.ret (.rt x305)) (M.ret (.nx ρ))) fun ρ => (M.thn (M.bind (M.bind (M.ret ρ.2.2.2.1) fun x308 => M.bind (M.bind (M.ret (1 : Int)) fun x307 => M.ret (-x307)) fun x309 => M.the (atI x308 x309)) fun x310 => M.ret (.nx (ρ.1, ρ.2.1, ρ.2.2.1, ρ.2.2.2.1, x310, ρ.2.2.2.2.2))) fun ρ => (M.bind (M.bind (M.bind (M.ret ρ.2.1) fun x312 => M.bind (M.ret (none : Option Int)) fun x313 => M.bind (M.bind (M.ret ρ.2.2.2.2.1) fun x311 => M.ret (some x311)) fun x314 => M.need (Str.length x312 ≤ sizeLine) (M.ret (cutS x312 x313 x314))) fun x334 => M.bind (M.bind (M.bind (M.bind (M.bind (M.ret ρ.2.1) fun x315 => M.bind (M.ret ρ.2.2.2.2.1) fun x316 => M.need (x315.length ≤ sizeLine) (M.bind (M.the (atI x315.cps.toList x316)) fun (c : Nat) => M.ret (⟨#[c]⟩ : Str))) fun x317 => M.bind (M.ret ("+" : Str)) fun x318 => M.ret (decide (x317 = x318))) fun x329 => M.ifb x329 (M.bind (M.ret ρ.2.1) fun x322 => M.bind (M.bind (M.bind (M.ret ρ.2.2.2.2.1) fun x319 => M.bind (M.ret (1 : Int)) fun x320 => M.ret (x319 + x320)) fun x321 => M.ret (some x321)) fun x323 => M.bind (M.ret (none : Option Int)) fun x324 => M.need (Str.length x322 ≤ sizeLine) (M.ret (cutS x322 x323 x324))) (M.bind (M.ret ρ.2.1) fun x326 => M.bind (M.bind (M.ret ρ.2.2.2.2.1) fun x325 => M.ret (some x325)) fun x327 => M.bind (M.ret (none : Option Int)) fun x328 => M.need (Str.length x326 ≤ sizeLine) (M.ret (cutS x326 x327 x328)))) fun x332 => M.bind (M.bind (M.ret ρ.2.2.1) fun x330 => M.bind (M.ret ()) fun x331 => M.ret (x330, x331)) fun x333 => M.ret (x332, x333)) fun x335 => M.ret (x334, x335)) fun x337 => M.ret (.rt x337))))))
noncomputable def m__law_sides (a : (Str × Unit)) : M (Str × (Str × (Str × Unit))) := M.fin (b__law_sides (a.1, ((), ((), ((), ((), ()))))))
theorem ok__law_sides (F : Fun K "_law_sides" "_law_sides" (topS 37) f fd) (fr : Free mg) : FnOk P w K mg base CX0 2 f fd ["_law_body"] (spOf (aCons rStr aNil) (rTx K (aCons rStr (aCons rStr (aCons rStr aNil)))) m__law_sides) := by
  refine F.ok sc__law_sides (fun vs H Q E h => spOf_len h) (fun cdv A outer s H vs Q E hr h => ⟨_, (pss_cons (ps_asg (pe_split (pv 0) pe_str) (pg_lst (by rfl) (pgs_cons (pg_name (i := 1) sc__law_sides.nd rfl (by first | exact Or.inl rfl | exact Or.inr rfl)) (pgs_cons (pg_name (i := 2) sc__law_sides.nd rfl (by first | exact Or.inl rfl | exact Or.inr rfl)) pgs_nil))))
  (pss_cons (ps_setLc (i := 3) (own := [("_law_at", 4)]) (by rfl) sc__law_sides.nd rfl rfl (sw_true rfl rfl rfl (by decide +kernel)) (pi_range2 (by rfl) fr.b_range (pa_cons pe_int (pa_cons (pe_callB call_len_str (by rfl) fr.b_len (by decide +kernel) (pa_cons (pv 1) pa_nil)) pa_nil))) (blkOk_by (own := [("_law_at", 4)]) (N := ["_law_body", "_law_ahead", "_law_behind", "_law_places", "_law_at"]) (sc := defScope (topS 37)) (by decide +kernel)) (fun _ _ _ _ _ => (pg_name (i := 4) sc__law_sides.nd rfl (by first | exact Or.inl rfl | exact Or.inr rfl))) (fun _ _ _ _ _ => (pts_one (pt_cmpR op_in_str (pe_ix (ix_str : IxR _ rIxS) (pv 1) (pv 4) (fun _ _ => rfl)) pe_str (by rfl)))) (fun _ _ _ _ _ => (pv 4)))
  (pss_cons (ps_if (pt_cmpR (op_eqD (have h := hu64 hr; h) : OpR _ _ (rEqD K)) (pv 3) (pe_lst pa_nil) (nomark _)) (pss_one (ps_ret (pe_tup (pa_cons pe_str (pa_cons (pv 1) (pa_cons (pv 2) pa_nil)))))) pss_nil)
  (pss_cons (ps_set (i := 4) sc__law_sides.nd rfl (by first | exact Or.inl rfl | exact Or.inr rfl) (pe_ix (ix_list : IxR _ (rIxL K)) (pv 3) (pe_un un_neg pe_int) (fun _ _ => rfl)))
  (pss_one (ps_ret (pe_tup (pa_cons (pe_slice sl_str (pv 1) po_none (po_some (pv 4))) (pa_cons (pe_ifExp (pt_cmpR op_eq (pe_ix (ix_str : IxR _ rIxS) (pv 1) (pv 4) (fun _ _ => rfl)) pe_str (nomark _)) (pe_slice sl_str (pv 1) (po_some (pe_op op_add (pv 4) pe_int)) po_none) (pe_slice sl_str (pv 1) (po_some (pv 4)) po_none)) (pa_cons (pv 2) pa_nil)))))))))), ?_⟩)
  refine fn_body (X := E) (S := (aCons rStr aNil)) (E' := eNil) (R := (rTx K (aCons rStr (aCons rStr (aCons rStr aNil))))) (st_par (st_un (st_un (st_un (st_un st_nil))))) rfl (s_seq (s_asg (e_lx (LxD.cons (LxD.cons LxD.nil)) (SN.se (n_split (e_var get0) e_str))) (g_lst (gs_cons (g_name pu1) (gs_cons (g_name pu2) gs_nil)) rfl))
  (s_seq (s_asg (SN.se (n_lc (i_rng2 e_int (e_ca c_lenS (a_cons (e_var gt1) a_nil))) (gw_name pu4) (t_of (e_op o_inStr (e_op o_ixS (e_var gt1) (e_var gt4)) e_str)) (e_var gt4))) (g_name pu3))
  (s_seq (s_if (t_of (e_op (o_eqD (da := (fun (xs : (List Int)) => PyData.list (xs.map PyData.int))) (db := (fun (xs : (List Int)) => PyData.list (xs.map PyData.int))) (dp_ls dp_int) (dp_ls dp_int)) (e_var gt3) (SN.se (n_lst (Ra := rInt) hom_nil a_nil (le_n 0))))) (s_ret (e_tup (a_cons e_str (a_cons (e_var gt1) (a_cons (e_var gt2) a_nil))) (le_n 3))) s_nil)
  (s_seq (s_asg (e_op o_ixL (e_var gt3) (e_un (u_ii fun _ => rfl) e_int)) (g_name pu4))
  (s_ret (e_tup (a_cons (e_sl sl_S (e_var gt1) so_none (so_some (e_var gt4))) (a_cons (e_if (t_of (e_op (o_eq sc_str) (e_op o_ixS (e_var gt1) (e_var gt4)) e_str)) (e_sl sl_S (e_var gt1) (so_some (e_op (o_ii fun _ _ => rfl) (e_var gt4) e_int)) so_none) (e_sl sl_S (e_var gt1) (so_some (e_var gt4)) so_none)) (a_cons (e_var gt2) a_nil))) (le_n 3))))))) ?_
  exact h
theorem sc__law_told : FnScope ["_law_text_here", "_law_parts", "_law_body", "_law_under", "_law_is_open", "_law_sides_here", "_law_top", "_law_part", "_law_root", "_law_form_here"] ["_law_text_here"] (defScope (topS 38)) := ⟨rfl, rfl, rfl, by decide +kernel, rfl, by decide +kernel, by decide +kernel⟩
noncomputable def b__law_told (ρ : (Str × (Unit × (Unit × (Unit × (Unit × (Unit × (Unit × (Unit × (Unit × (Unit × Unit))))))))))) : M (Ct Unit Unit PyData) := (M.thn (M.bind (M.bind (M.ret ρ.1) fun x338 => M.bind (M.ret ("/" : Str)) fun x339 => M.need ((Str.length x339 == 0) = false ∧ Str.length x338 + 2 ≤ sizeLine) (M.ret (Txt.split x338 x339))) fun x340 => M.ret (.nx (ρ.1, x340, ρ.2.2))) fun ρ => (M.thn (M.bind (M.bind (M.bind (M.bind (M.bind (M.ret ρ.2.1) fun x341 => M.bind (M.ret ()) fun x342 => M.ret (x341, x342)) fun r343 => M.ret (r343.1.length : Int)) fun x344 => M.bind (M.ret (2 : Int)) fun x345 => M.ret (decide (x345 < x344))) fun x352 => M.ifb x352 (M.ret true) (M.bind (M.bind (M.bind (M.ret ρ.2.1) fun x346 => M.bind (M.ret (0 : Int)) fun x347 => M.the (atI x346 x347)) fun x348 => M.bind (M.ret ("r" : Str)) fun x349 => M.ret (Txt.count x348 x349)) fun x350 => M.bind (M.ret (1 : Int)) fun x351 => M.ret (decide (x351 < x350)))) fun x355 => M.ifb x355 (M.bind (M.bind (M.ret ()) fun x353 => M.ret ((fun _ => PyData.none) x353)) fun x354 => M.ret (.rt x354)) (M.ret (.nx ρ))) fun ρ => (M.thn (M.bind (M.bind (M.ret ρ.2.1) fun x356 => M.bind (M.ret (0 : Int)) fun x357 => M.the (atI x356 x357)) fun x370 => M.bind (M.bind (M.bind (M.bind (M.bind (M.ret ρ.2.1) fun x358 => M.bind (M.ret ()) fun x359 => M.ret (x358, x359)) fun r360 => M.ret (r360.1.length : Int)) fun x361 => M.bind (M.ret (2 : Int)) fun x362 => M.ret (decide (x361 = x362))) fun x369 => M.ifb x369 (M.bind (M.bind (M.bind (M.ret ρ.2.1) fun x363 => M.bind (M.ret (1 : Int)) fun x364 => M.the (atI x363 x364)) fun x365 => M.bind (M.ret ()) fun x366 => M.ret (x365, x366)) fun r367 => M.still (m__law_integer r367)) (M.bind (M.ret (1 : Int)) fun x368 => M.ret (some x368))) fun x371 => M.ret (.nx (ρ.1, ρ.2.1, x370, x371, ρ.2.2.2.2.1, ρ.2.2.2.2.2.1, ρ.2.2.2.2.2.2.1, ρ.2.2.2.2.2.2.2.1, ρ.2.2.2.2.2.2.2.2.1, ρ.2.2.2.2.2.2.2.2.2.1, ρ.2.2.2.2.2.2.2.2.2.2))) fun ρ => (M.thn (M.bind (M.bind (M.bind (M.bind (M.ret ρ.2.2.1) fun x373 => M.bind (M.ret (none : Option Int)) fun x374 => M.bind (M.bind (M.ret (1 : Int)) fun x372 => M.ret (some x372)) fun x375 => M.need (Str.length x373 ≤ sizeLine) (M.ret (cutS x373 x374 x375))) fun x376 => M.bind (M.ret ("(" : Str)) fun x377 => M.ret (decide (x376 = x377))) fun x385 => M.ifb x385 (M.bind (M.bind (M.ret ρ.2.2.1) fun x380 => M.bind (M.bind (M.bind (M.ret (1 : Int)) fun x378 => M.ret (-x378)) fun x379 => M.ret (some x379)) fun x381 => M.bind (M.ret (none : Option Int)) fun x382 => M.need (Str.length x380 ≤ sizeLine) (M.ret (cutS x380 x381 x382))) fun x383 => M.bind (M.ret (")" : Str)) fun x384 => M.ret (decide (x383 = x384))) (M.ret false)) fun x386 => M.ret (.nx (ρ.1, ρ.2.1, ρ.2.2.1, ρ.2.2.2.1, x386, ρ.2.2.2.2.2))) fun ρ => (M.thn (M.bind (M.ret ρ.2.2.2.2.1) fun x394 => M.ifb x394 (M.bind (M.bind (M.ret ρ.2.2.1) fun x390 => M.bind (M.bind (M.ret (1 : Int)) fun x387 => M.ret (some x387)) fun x391 => M.bind (M.bind (M.bind (M.ret (1 : Int)) fun x388 => M.ret (-x388)) fun x389 => M.ret (some x389)) fun x392 => M.need (Str.length x390 ≤ sizeLine) (M.ret (cutS x390 x391 x392))) fun x393 => M.ret (.nx (ρ.1, ρ.2.1, x393, ρ.2.2.2))) (M.ret (.nx ρ))) fun ρ => (M.thn (M.bind (M.bind (M.ret ("" : Str)) fun x399 => M.bind (M.bind (M.ret ("0" : Str)) fun x397 => M.bind (M.bind (M.ret ("0" : Str)) fun x395 => M.bind (M.ret ()) fun x396 => M.ret (x395, x396)) fun x398 => M.ret (x397, x398)) fun x400 => M.ret (x399, x400)) fun x402 => M.ret (.nx (ρ.1, ρ.2.1, ρ.2.2.1, ρ.2.2.2.1, ρ.2.2.2.2.1, x402, ρ.2.2.2.2.2.2))) fun ρ => (M.thn (M.bind (M.bind (M.ret ("r" : Str)) fun x403 => M.bind (M.ret ρ.2.2.1) fun x404 => M.ret (inStr x403 x404)) fun x409 => M.ifb x409 (M.bind (M.bind (M.bind (M.ret ρ.2.2.1) fun x405 => M.bind (M.ret ()) fun x406 => M.ret (x405, x406)) fun r407 => M.still (m__law_sides r407)) fun x408 => M.ret (.nx (ρ.1, ρ.2.1, ρ.2.2.1, ρ.2.2.2.1, ρ.2.2.2.2.1, x408, ρ.2.2.2.2.2.2))) (M.ret (.nx ρ))) fun ρ => (M.thn (M.bind (M.bind (M.bind (M.bind (M.ret ρ.2.2.2.2.2.1) fun x410 => M.ret x410.1) fun x411 => M.bind (M.ret ("" : Str)) fun x412 => M.ret (!decide (x411 = x412))) fun x418 => M.ifb x418 (M.bind (M.bind (M.bind (M.ret ρ.2.2.2.2.2.1) fun x413 => M.ret x413.1) fun x414 => M.bind (M.ret ()) fun x415 => M.ret (x414, x415)) fun r416 => M.still (m__law_integer r416)) (M.bind (M.ret (0 : Int)) fun x417 => M.ret (some x417))) fun x419 => M.ret (.nx (ρ.1, ρ.2.1, ρ.2.2.1, ρ.2.2.2.1, ρ.2.2.2.2.1, ρ.2.2.2.2.2.1, x419, ρ.2.2.2.2.2.2.2))) fun ρ => (M.thn (M.bind (M.bind (M.ret ("r" : Str)) fun x420 => M.bind (M.ret ρ.2.2.1) fun x421 => M.ret (!(inStr x420 x421))) fun x426 => M.ifb x426 (M.bind (M.bind (M.bind (M.ret ρ.2.2.1) fun x422 => M.bind (M.ret ()) fun x423 => M.ret (x422, x423)) fun r424 => M.still (m__law_integer r424)) fun x425 => M.ret (.nx (ρ.1, ρ.2.1, ρ.2.2.1, ρ.2.2.2.1, ρ.2.2.2.2.1, ρ.2.2.2.2.2.1, x425, ρ.2.2.2.2.2.2.2))) (M.ret (.nx ρ))) fun ρ => (M.thn (M.bind (M.bind (M.bind (M.bind (M.ret ρ.2.2.2.2.2.1) fun x427 => M.ret x427.2.1) fun x428 => M.bind (M.ret ()) fun x429 => M.ret (x428, x429)) fun r430 => M.still (m__law_integer r430)) fun x435 => M.bind (M.bind (M.bind (M.bind (M.ret ρ.2.2.2.2.2.1) fun x431 => M.ret x431.2.2.1) fun x432 => M.bind (M.ret ()) fun x433 => M.ret (x432, x433)) fun r434 => M.still (m__law_integer r434)) fun x436 => M.ret (.nx (ρ.1, ρ.2.1, ρ.2.2.1, ρ.2.2.2.1, ρ.2.2.2.2.1, ρ.2.2.2.2.2.1, ρ.2.2.2.2.2.2.1, x435, x436, ρ.2.2.2.2.2.2.2.2.2.1, ρ.2.2.2.2.2.2.2.2.2.2))) fun ρ => (M.thn (M.bind (M.bind (M.bind (M.bind (M.ret ()) fun x446 => M.ret (none : (Option Int))) fun x447 => M.bind (M.bind (M.bind (M.ret ρ.2.2.2.1) fun x443 => M.bind (M.bind (M.ret ρ.2.2.2.2.2.2.1) fun x441 => M.bind (M.bind (M.ret ρ.2.2.2.2.2.2.2.1) fun x439 => M.bind (M.bind (M.ret ρ.2.2.2.2.2.2.2.2.1) fun x437 => M.bind (M.ret ()) fun x438 => M.ret (x437, x438)) fun x440 => M.ret (x439, x440)) fun x442 => M.ret (x441, x442)) fun x444 => M.ret (x443, x444)) fun r445 => M.ret [r445.1, r445.2.1, r445.2.2.1, r445.2.2.2.1]) fun x448 => M.need (((dOpt PyData.int) x447).canLay0 = true ∧ (PyData.list (x448.map (dOpt PyData.int))).canLay0 = true) (M.ret ((x448.map (dOpt PyData.int)).any fun z => PyData.eqv z ((dOpt PyData.int) x447)))) fun x461 => M.ifb x461 (M.ret true) (M.bind (M.bind (M.bind (M.ret ρ.2.2.2.1) fun x449 => M.the (id x449)) fun x450 => M.bind (M.ret (1 : Int)) fun x451 => M.ret (decide (x450 < x451))) fun x460 => M.ifb x460 (M.ret true) (M.bind (M.bind (M.ret ("r" : Str)) fun x452 => M.bind (M.ret ρ.2.2.1) fun x453 => M.ret (inStr x452 x453)) fun x459 => M.ifb x459 (M.bind (M.bind (M.bind (M.bind (M.ret ρ.2.2.2.2.2.2.2.2.1) fun x454 => M.the (id x454)) fun x455 => M.bind (M.ret ()) fun x456 => M.ret (x455, x456)) fun r457 => M.still (m__law_free_of_squares r457)) fun x458 => M.ret (!x458)) (M.ret false)))) fun x464 => M.ifb x464 (M.bind (M.bind (M.ret ()) fun x462 => M.ret ((fun _ => PyData.none) x462)) fun x463 => M.ret (.rt x463)) (M.ret (.nx ρ))) fun ρ => (M.thn (M.bind (M.bind (M.bind (M.bind (M.ret ρ.2.2.2.2.2.2.1) fun x465 => M.the (id x465)) fun x475 => M.bind (M.bind (M.bind (M.ret ρ.2.2.2.2.2.2.2.1) fun x466 => M.the (id x466)) fun x473 => M.bind (M.bind (M.bind (M.ret ρ.2.2.2.2.2.2.2.2.1) fun x467 => M.the (id x467)) fun x471 => M.bind (M.bind (M.bind (M.ret ρ.2.2.2.1) fun x468 => M.the (id x468)) fun x469 => M.bind (M.ret ()) fun x470 => M.ret (x469, x470)) fun x472 => M.ret (x471, x472)) fun x474 => M.ret (x473, x474)) fun x476 => M.ret (x475, x476)) fun r477 => M.still (m__law_least r477)) fun x478 => M.ret (.nx (ρ.1, ρ.2.1, ρ.2.2.1, ρ.2.2.2.1, ρ.2.2.2.2.1, ρ.2.2.2.2.2.1, ρ.2.2.2.2.2.2.1, ρ.2.2.2.2.2.2.2.1, ρ.2.2.2.2.2.2.2.2.1, x478, ρ.2.2.2.2.2.2.2.2.2.2))) fun ρ => (M.bind (M.bind (M.bind (M.bind (M.bind (M.bind (M.ret ρ.2.2.2.2.2.2.2.2.2.1) fun x479 => M.bind (M.ret ()) fun x480 => M.ret (x479, x480)) fun r481 => M.still (m__law_text r481)) fun x482 => M.bind (M.ret ρ.1) fun x483 => M.ret (decide (x482 = x483))) fun x486 => M.ifb x486 (M.bind (M.ret ρ.2.2.2.2.2.2.2.2.2.1) fun x484 => M.ret (some x484)) (M.bind (M.ret ()) fun x485 => M.ret (none : (Option (Int × (Int × (Int × (Int × Unit)))))))) fun x487 => M.ret ((dOpt (fun (a : (Int × (Int × (Int × (Int × Unit))))) => PyData.tuple ((fun (a : (Int × (Int × (Int × (Int × Unit))))) => PyData.int a.1 :: (fun (a : (Int × (Int × (Int × Unit)))) => PyData.int a.1 :: (fun (a : (Int × (Int × Unit))) => PyData.int a.1 :: (fun (a : (Int × Unit)) => PyData.int a.1 :: (fun (_ : Unit) => ([] : List PyData)) a.2) a.2) a.2) a.2) a))) x487)) fun x488 => M.ret (.rt x488))))))))))))))
noncomputable def m__law_told (a : (Str × Unit)) : M PyData := M.fin (b__law_told (a.1, ((), ((), ((), ((), ((), ((), ((), ((), ((), ())))))))))))
theorem ok__law_told (F : Fun K "_law_told" "_law_told" (topS 38) f fd) (fr : Free mg) (G__law_integer : GD P w K mg base "_law_integer" 2 (spOf (aCons rStr aNil) (rOpt rInt) m__law_integer)) (G__law_sides : GD P w K mg base "_law_sides" 2 (spOf (aCons rStr aNil) (rTx K (aCons rStr (aCons rStr (aCons rStr aNil)))) m__law_sides)) (G__law_free_of_squares : GD P w K mg base "_law_free_of_squares" 2 (spOf (aCons rInt aNil) rBl m__law_free_of_squares)) (G__law_least : GD P w K mg base "_law_least" 3 (spOf (aCons rInt (aCons rInt (aCons rInt (aCons rInt aNil)))) (rTx K (aCons rInt (aCons rInt (aCons rInt (aCons rInt aNil))))) m__law_least)) (G__law_text : GD P w K mg base "_law_text" 2 (spOf (aCons (rTx K (aCons rInt (aCons rInt (aCons rInt (aCons rInt aNil))))) aNil) rStr m__law_text)) : FnOk P w K mg base CX0 4 f fd ["_law_text_here"] (spOf (aCons rStr aNil) (rDt K) m__law_told) := by
  refine F.ok sc__law_told (fun vs H Q E h => spOf_len h) (fun cdv A outer s H vs Q E hr h => ⟨_, (pss_cons (ps_set (i := 1) sc__law_told.nd rfl (by first | exact Or.inl rfl | exact Or.inr rfl) (pe_split (pv 0) pe_str))
  (pss_cons (ps_if (PW.pt (pw_or (pt_cmpR op_gt (pe_callB call_len (by rfl) fr.b_len (by decide +kernel) (pa_cons (pv 1) pa_nil)) pe_int (nomark _)) (pw_or1 (pt_cmpR op_gt (pe_m1 PySem.F.slot_str_count PySem.F.type_str_count mt_count (pe_ix (ix_list : IxR _ (rIxL K)) (pv 1) pe_int (fun _ _ => rfl)) pe_str) pe_int (nomark _))))) (pss_one (ps_ret pe_non)) pss_nil)
  (pss_cons (ps_par (i := 2) (j := 3) (by rfl) sc__law_told.nd rfl rfl (by decide) rfl rfl (pa_cons (pe_ix (ix_list : IxR _ (rIxL K)) (pv 1) pe_int (fun _ _ => rfl)) (pa_cons (pe_ifExp (pt_cmpR op_eq (pe_callB call_len (by rfl) fr.b_len (by decide +kernel) (pa_cons (pv 1) pa_nil)) pe_int (nomark _)) (pe_c1 G__law_integer (hr.mono (by decide)) (pa_cons (pe_ix (ix_list : IxR _ (rIxL K)) (pv 1) pe_int (fun _ _ => rfl)) pa_nil)) pe_int) pa_nil)) (by rfl))
  (pss_cons (ps_set (i := 4) sc__law_told.nd rfl (by first | exact Or.inl rfl | exact Or.inr rfl) (pe_and (pe_cmpR op_eq (pe_slice sl_str (pv 2) po_none (po_some pe_int)) pe_str (nomark _)) (pe_one (pe_cmpR op_eq (pe_slice sl_str (pv 2) (po_some (pe_un un_neg pe_int)) po_none) pe_str (nomark _)))))
  (pss_cons (ps_if (pt_val (pv 4)) (pss_one (ps_set (i := 2) sc__law_told.nd rfl (by first | exact Or.inl rfl | exact Or.inr rfl) (pe_slice sl_str (pv 2) (po_some pe_int) (po_some (pe_un un_neg pe_int))))) pss_nil)
  (pss_cons (ps_set (i := 5) sc__law_told.nd rfl (by first | exact Or.inl rfl | exact Or.inr rfl) (pe_tup (pa_cons pe_str (pa_cons pe_str (pa_cons pe_str pa_nil)))))
  (pss_cons (ps_if (pt_cmpR op_in_str pe_str (pv 2) (by rfl)) (pss_one (ps_set (i := 5) sc__law_told.nd rfl (by first | exact Or.inl rfl | exact Or.inr rfl) (pe_c1 G__law_sides (hr.mono (by decide)) (pa_cons (pv 2) pa_nil)))) pss_nil)
  (pss_cons (ps_set (i := 6) sc__law_told.nd rfl (by first | exact Or.inl rfl | exact Or.inr rfl) (pe_ifExp (pt_cmpR op_ne (pe_ix (ix_tup : IxR _ (rIxT K)) (pv 5) pe_int (fun _ _ => rfl)) pe_str (nomark _)) (pe_c1 G__law_integer (hr.mono (by decide)) (pa_cons (pe_ix (ix_tup : IxR _ (rIxT K)) (pv 5) pe_int (fun _ _ => rfl)) pa_nil)) pe_int))
  (pss_cons (ps_if (pt_cmpR op_niS pe_str (pv 2) (by rfl)) (pss_one (ps_set (i := 6) sc__law_told.nd rfl (by first | exact Or.inl rfl | exact Or.inr rfl) (pe_c1 G__law_integer (hr.mono (by decide)) (pa_cons (pv 2) pa_nil)))) pss_nil)
  (pss_cons (ps_par (i := 7) (j := 8) (by rfl) sc__law_told.nd rfl rfl (by decide) rfl rfl (pa_cons (pe_c1 G__law_integer (hr.mono (by decide)) (pa_cons (pe_ix (ix_tup : IxR _ (rIxT K)) (pv 5) pe_int (fun _ _ => rfl)) pa_nil)) (pa_cons (pe_c1 G__law_integer (hr.mono (by decide)) (pa_cons (pe_ix (ix_tup : IxR _ (rIxT K)) (pv 5) pe_int (fun _ _ => rfl)) pa_nil)) pa_nil)) (by rfl))
  (pss_cons (ps_if (PW.pt (pw_or (pt_cmpR (op_inD (hu65 hr) : OpR _ _ (rInD K)) pe_non (pe_lst (pa_cons (pv 3) (pa_cons (pv 6) (pa_cons (pv 7) (pa_cons (pv 8) pa_nil))))) (by rfl)) (pw_or (pt_cmpR op_lt (pv 3) pe_int (nomark _)) (pw_or1 (PW.pt (pw_and (pt_cmpR op_in_str pe_str (pv 2) (by rfl)) (pw_and1 (pt_not (pt_val (pe_c1 G__law_free_of_squares (hr.mono (by decide)) (pa_cons (pv 8) pa_nil))))))))))) (pss_one (ps_ret pe_non)) pss_nil)
  (pss_cons (ps_set (i := 9) sc__law_told.nd rfl (by first | exact Or.inl rfl | exact Or.inr rfl) (pe_c1 G__law_least (hr.mono (by decide)) (pa_cons (pv 6) (pa_cons (pv 7) (pa_cons (pv 8) (pa_cons (pv 3) pa_nil))))))
  (pss_one (ps_ret (pe_ifExp (pt_cmpR op_eq (pe_c1 G__law_text (hr.mono (by decide)) (pa_cons (pv 9) pa_nil)) (pv 0) (nomark _)) (pv 9) pe_non))))))))))))))), ?_⟩)
  refine fn_body (X := E) (S := (aCons rStr aNil)) (E' := eNil) (R := (rDt K)) (st_par (st_un (st_un (st_un (st_un (st_un (st_un (st_un (st_un (st_un st_nil)))))))))) rfl (s_seq (s_asg (SN.se (n_split (e_var get0) e_str)) (g_name pu1))
  (s_seq (s_if (t_or (t_of (e_op (o_ib fun _ _ => rfl) (e_ca (c_len len_ls) (a_cons (e_var gt1) a_nil)) e_int)) (t_of (e_op (o_ib fun _ _ => rfl) (e_count (e_op o_ixL (e_var gt1) e_int) e_str) e_int))) (s_ret (e_dat dp_non e_non)) s_nil)
  (s_seq (s_parV (sv_e (e_op o_ixL (e_var gt1) e_int)) (sv_e (e_if (t_of (e_op (o_eq sc_int) (e_ca (c_len len_ls) (a_cons (e_var gt1) a_nil)) e_int)) (e_call (a_cons (e_op o_ixL (e_var gt1) e_int) a_nil)) (e_coeX (coe_some nn_int) e_int))) pu2 pu3)
  (s_seq (s_asg (e_and (e_op (o_eq sc_str) (e_sl sl_S (e_var gt2) so_none (so_some e_int)) e_str) (e_op (o_eq sc_str) (e_sl sl_S (e_var gt2) (so_some (e_un (u_ii fun _ => rfl) e_int)) so_none) e_str)) (g_name pu4))
  (s_seq (s_if (t_b (e_var gt4)) (s_asg (e_sl sl_S (e_var gt2) (so_some e_int) (so_some (e_un (u_ii fun _ => rfl) e_int))) (g_name pu2)) s_nil)
  (s_seq (s_asg (e_tup (a_cons e_str (a_cons e_str (a_cons e_str a_nil))) (le_n 3)) (g_name pu5))
  (s_seq (s_if (t_of (e_op o_inStr e_str (e_var gt2))) (s_asg (e_call (a_cons (e_var gt2) a_nil)) (g_name pu5)) s_nil)
  (s_seq (s_asg (e_if (t_of (e_op (o_ne sc_str) (e_ixX (i := 0) rget0 (e_var gt5)) e_str)) (e_call (a_cons (e_ixX (i := 0) rget0 (e_var gt5)) a_nil)) (e_coeX (coe_some nn_int) e_int)) (g_name pu6))
  (s_seq (s_if (t_of (e_op o_niS e_str (e_var gt2))) (s_asg (e_call (a_cons (e_var gt2) a_nil)) (g_name pu6)) s_nil)
  (s_seq (s_parV (sv_e (e_call (a_cons (e_ixX (i := 1) (rgetS rget0) (e_var gt5)) a_nil))) (sv_e (e_call (a_cons (e_ixX (i := 2) (rgetS (rgetS rget0)) (e_var gt5)) a_nil))) pu7 pu8)
  (s_seq (s_if (t_or (t_of (e_op (o_inD (da := (dOpt PyData.int)) (dp_opt dp_int) (dp_ls (dp_opt dp_int))) (e_coeX (Rb := (rOpt rInt)) coe_none e_non) (SN.se (n_lst (hom_cons (hom_cons (hom_cons (hom_cons hom_nil)))) (a_cons (e_var gt3) (a_cons (e_var gt6) (a_cons (e_var gt7) (a_cons (e_var gt8) a_nil)))) (le_n 4))))) (t_or (t_of (e_op (o_ib fun _ _ => rfl) (e_the (f := id) opt_get (e_var gt3)) e_int)) (t_and (t_of (e_op o_inStr e_str (e_var gt2))) (t_not (t_b (e_call (a_cons (e_the (f := id) opt_get (e_var gt8)) a_nil))))))) (s_ret (e_dat dp_non e_non)) s_nil)
  (s_seq (s_asg (e_call (a_cons (e_the (f := id) opt_get (e_var gt6)) (a_cons (e_the (f := id) opt_get (e_var gt7)) (a_cons (e_the (f := id) opt_get (e_var gt8)) (a_cons (e_the (f := id) opt_get (e_var gt3)) a_nil))))) (g_name pu9))
  (s_ret (e_dat (dp_opt (dp_tx (dpa_cons dp_int (dpa_cons dp_int (dpa_cons dp_int (dpa_cons dp_int dpa_nil)))))) (e_if (t_of (e_op (o_eq sc_str) (e_call (a_cons (e_var gt9) a_nil)) (e_var get0))) (e_coeX (coe_some nn_tx) (e_var gt9)) (e_coeX (Rb := (rOpt (rTx K (aCons rInt (aCons rInt (aCons rInt (aCons rInt aNil))))))) coe_none e_non)))))))))))))))) ?_
  exact h
theorem sc__law_bent : FnScope ["_law_dice_here", "_law_text_here", "_law_turn", "_law_at", "_law_sign"] ["_law_dice_here", "_law_text_here"] (defScope (topS 39)) := ⟨rfl, rfl, rfl, by decide +kernel, rfl, by decide +kernel, by decide +kernel⟩
noncomputable def b__law_bent (ρ : (Unit × (Str × (Unit × (Unit × (Unit × Unit)))))) : M (Ct Unit Unit Str) := (M.thn (M.bind (M.bind (M.bind (M.ret (1 : Int)) fun x490 => M.bind (M.bind (M.ret (2 : Int)) fun x489 => M.roll x489) fun x491 => M.ret (x490 + x491)) fun x492 => M.need (-(2 ^ 62) ≤ x492 ∧ x492 < 2 ^ 62) (M.ret (rng 0 x492))) fun l532 => M.forM l532 (fun (a493 : Int) (ρ : (Unit × (Str × (Unit × (Unit × (Unit × Unit)))))) => (fun ρ => (M.thn (M.thn (M.bind (M.bind (M.bind (M.bind (M.bind (M.ret ρ.2.1) fun x494 => M.bind (M.ret ()) fun x495 => M.ret (x494, x495)) fun r496 => M.need (Str.length r496.1 ≤ sizeLine) (M.ret (Str.length r496.1 : Int))) fun x497 => M.bind (M.ret (1 : Int)) fun x498 => M.ret (x497 + x498)) fun x499 => M.roll x499) fun x500 => M.ret (.nx (ρ.1, ρ.2.1, ρ.2.2.1, x500, ρ.2.2.2.2))) fun ρ => (M.thn (M.bind (M.bind (M.ret ("0123456789r+-/() " : Str)) fun x502 => M.bind (M.bind (M.ret (17 : Int)) fun x501 => M.roll x501) fun x503 => M.need (x502.length ≤ sizeLine) (M.bind (M.the (atI x502.cps.toList x503)) fun (c : Nat) => M.ret (⟨#[c]⟩ : Str))) fun x504 => M.ret (.nx (ρ.1, ρ.2.1, ρ.2.2.1, ρ.2.2.2.1, x504, ρ.2.2.2.2.2))) fun ρ => (M.bind (M.bind (M.bind (M.bind (M.ret ρ.2.1) fun x506 => M.bind (M.ret (none : Option Int)) fun x507 => M.bind (M.bind (M.ret ρ.2.2.2.1) fun x505 => M.ret (some x505)) fun x508 => M.need (Str.length x506 ≤ sizeLine) (M.ret (cutS x506 x507 x508))) fun x517 => M.bind (M.bind (M.ret ρ.2.2.2.2.1) fun x515 => M.bind (M.bind (M.bind (M.bind (M.bind (M.ret (3 : Int)) fun x509 => M.roll x509) fun x510 => M.bind (M.ret (0 : Int)) fun x511 => M.ret (decide (x511 < x510))) fun x512 => M.bind (M.ret ()) fun x513 => M.ret (x512, x513)) fun r514 => M.ret (if r514.1 = true then 1 else 0)) fun x516 => M.need (MulOk x515 x516) (M.ret (Txt.mul x515 x516))) fun x518 => M.need (Str.length x517 + Str.length x518 ≤ sizeLine) (M.ret (x517 ++ x518))) fun x529 => M.bind (M.bind (M.ret ρ.2.1) fun x526 => M.bind (M.bind (M.bind (M.ret ρ.2.2.2.1) fun x523 => M.bind (M.bind (M.bind (M.bind (M.ret (2 : Int)) fun x519 => M.roll x519) fun x520 => M.bind (M.ret ()) fun x521 => M.ret (x520, x521)) fun r522 => M.ret r522.1) fun x524 => M.ret (x523 + x524)) fun x525 => M.ret (some x525)) fun x527 => M.bind (M.ret (none : Option Int)) fun x528 => M.need (Str.length x526 ≤ sizeLine) (M.ret (cutS x526 x527 x528))) fun x530 => M.need (Str.length x529 + Str.length x530 ≤ sizeLine) (M.ret (x529 ++ x530))) fun x531 => M.ret (.nx (ρ.1, x531, ρ.2.2))))) fun ρ => M.ret (.nx (ρ.1, ρ.2.1, (), (), (), ρ.2.2.2.2.2)))) (ρ.1, ρ.2.1, a493, ρ.2.2.2)) ρ) fun ρ => (M.bind (M.ret ρ.2.1) fun x533 => M.ret (.rt x533)))
noncomputable def m__law_bent (a : (Str × Unit)) : M Str := M.fin (b__law_bent ((), (a.1, ((), ((), ((), ()))))))
theorem ok__law_bent (F : Fun K "_law_bent" "_law_bent" (topS 39) f fd) (fr : Free mg) (G__law_roll : GD P w K mg base "_law_roll" 2 spRoll) : FnOk P w K mg base CX0 3 f fd ["_law_dice_here", "_law_text_here"] (spOfD (aCons rStr aNil) rStr m__law_bent) := by
  refine F.ok sc__law_bent (fun vs H Q E h => spOfD_len h) (fun cdv A outer s H vs Q E hr h => ⟨_, (pss_cons (ps_for PassesOwn.never rfl (pi_range1 (by rfl) fr.b_range (pa_cons (pe_op op_add pe_int (pe_c1 G__law_roll (hr.mono (by decide)) (pa_cons (pv 0) (pa_cons pe_int pa_nil)))) pa_nil)) (pg_name (i := 2) sc__law_bent.nd rfl (by first | exact Or.inl rfl | exact Or.inr rfl)) (pss_cons (ps_set (i := 3) sc__law_bent.nd rfl (by first | exact Or.inl rfl | exact Or.inr rfl) (pe_c1 G__law_roll (hr.mono (by decide)) (pa_cons (pv 0) (pa_cons (pe_op op_add (pe_callB call_len_str (by rfl) fr.b_len (by decide +kernel) (pa_cons (pv 1) pa_nil)) pe_int) pa_nil))))
  (pss_cons (ps_set (i := 4) sc__law_bent.nd rfl (by first | exact Or.inl rfl | exact Or.inr rfl) (pe_ix (ix_str : IxR _ rIxS) pe_str (pe_c1 G__law_roll (hr.mono (by decide)) (pa_cons (pv 0) (pa_cons pe_int pa_nil))) (fun _ _ => rfl)))
  (pss_one (ps_set (i := 1) sc__law_bent.nd rfl (by first | exact Or.inl rfl | exact Or.inr rfl) (pe_op op_add_str (pe_op op_add_str (pe_slice sl_str (pv 1) po_none (po_some (pv 3))) (pe_op op_mul_str (pv 4) (pe_callTy call_int1 (by rfl) fr.b_int (by decide +kernel) (pa_cons (pe_cmpR op_gt (pe_c1 G__law_roll (hr.mono (by decide)) (pa_cons (pv 0) (pa_cons pe_int pa_nil))) pe_int (nomark _)) pa_nil)))) (pe_slice sl_str (pv 1) (po_some (pe_op op_add (pv 3) (pe_callTy call_int1 (by rfl) fr.b_int (by decide +kernel) (pa_cons (pe_c1 G__law_roll (hr.mono (by decide)) (pa_cons (pv 0) (pa_cons pe_int pa_nil))) pa_nil)))) po_none)))))))
  (pss_one (ps_ret (pv 1)))), ?_⟩)
  refine fn_bodyD (X := E) (S := (aCons rStr aNil)) (E' := eNil) (R := rStr) (st_dice (st_par (st_un (st_un (st_un st_nil))))) rfl (s_seq (s_for (i_rng1 (e_op (o_ii fun _ _ => rfl) e_int (e_roll get0 e_int))) (g_name pu2) (s_post (s_seq (s_asg (e_roll get0 (e_op (o_ii fun _ _ => rfl) (e_ca c_lenS (a_cons (e_var gt1) a_nil)) e_int)) (g_name pu3))
  (s_seq (s_asg (e_op o_ixS e_str (e_roll get0 e_int)) (g_name pu4))
  (s_asg (e_op o_addS (e_op o_addS (e_sl sl_S (e_var gt1) so_none (so_some (e_var gt3))) (e_op o_mulS (e_var gt4) (e_ca c_intB (a_cons (e_op (o_ib fun _ _ => rfl) (e_roll get0 e_int) e_int) a_nil)))) (e_sl sl_S (e_var gt1) (so_some (e_op (o_ii fun _ _ => rfl) (e_var gt3) (e_ca c_intI (a_cons (e_roll get0 e_int) a_nil)))) so_none)) (g_name pu1)))) (wk_fg (fg_keep (fg_keep (fg_un (fg_un (fg_un fg_nil))))))))
  (s_ret (e_var gt1))) ?_
  exact h
theorem sc__law_read : FnScope ["_law_text_here", "e"] ["_law_text_here"] (defScope (topS 40)) := ⟨rfl, rfl, rfl, by decide +kernel, rfl, by decide +kernel, by decide +kernel⟩
noncomputable def b__law_read (ρ : ((Sum PyData (Sum Nm Unit)) × (Unit × Unit))) : M (Ct Unit Unit PyData) := (M.tryM (M.bind (M.still (M.bind (M.bind (M.bind (M.bind (M.safe (M.bind (M.ret ρ.1) fun x535 => M.bind (M.ret ()) fun x536 => M.ret (x535, x536))) fun r534 => M.still (m_Number_read_X ((), r534))) fun x537 => M.bind (M.safe (M.ret ())) fun x538 => M.ret (x537, x538)) fun r539 => M.still (M.safe (m__law_form r539))) fun x540 => M.ret ((fun (a : (Int × (Int × (Int × (Int × Unit))))) => PyData.tuple ((fun (a : (Int × (Int × (Int × (Int × Unit))))) => PyData.int a.1 :: (fun (a : (Int × (Int × (Int × Unit)))) => PyData.int a.1 :: (fun (a : (Int × (Int × Unit))) => PyData.int a.1 :: (fun (a : (Int × Unit)) => PyData.int a.1 :: (fun (_ : Unit) => ([] : List PyData)) a.2) a.2) a.2) a.2) a)) x540))) fun x541 => M.ret (.rt x541)) (fun e => M.byE [("ParseError" : Str)] [] (M.thn ((fun (ρ  : ((Sum PyData (Sum Nm Unit)) × (Er × Unit))) => (M.bind (M.bind (M.bind (M.bind (M.bind (M.bind (M.need (ρ.2.1.cls = ("ParseError" : Str)) (M.ret ρ.2.1.val)) fun x542 => M.bind (M.ret ()) fun x543 => M.ret (x542, x543)) fun r544 => M.need (r544.1.showable = true ∧ r544.1.hasDict = false ∧ r544.1.shown.length ≤ sizeLine ∧ r544.1.depth ≤ 64) (M.ret r544.1.shown)) fun x545 => M.bind (M.ret ("0" : Str)) fun x546 => M.ret (decide (x545 = x546))) fun x549 => M.ifb x549 (M.bind (M.ret ()) fun x547 => M.ret (none : (Option Str))) (M.bind (M.ret ("odd" : Str)) fun x548 => M.ret (some x548))) fun x550 => M.ret ((dOpt PyData.str) x550)) fun x551 => M.ret (.rt x551))) (ρ.1, e, ρ.2.2)) fun (ρ  : Unit) => M.ret (.nx ρ)) (fun _ => M.none) e))
noncomputable def m__law_read (a : ((Sum PyData (Sum Nm Unit)) × Unit)) : M PyData := M.fin (b__law_read (a.1, ((), ())))
theorem ok__law_read (F : Fun K "_law_read" "_law_read" (topS 40) f fd) (bn : Binds K fd ["_law_text_here"] []) (TN : NTxt K mg CN CF) (GCX_read : GCmX P w K mg base CN "read" 9 (spOfF K mg flE (aCons (rCls CN) (aCons (rUn (rDt K) (rUn (rNum CN) rD0)) aNil)) (rNum CN) m_Number_read_X)) (G__law_form : GD P w K mg base "_law_form" 4 (spOf (aCons (rNum CN) aNil) (rTx K (aCons rInt (aCons rInt (aCons rInt (aCons rInt aNil))))) m__law_form)) (Y_ParseError : GErr P K mg "ParseError" "index" A_ParseError) (fr : Free mg) (E_ParseError_ParseError : PySem.W.exmOne K (.ref A_ParseError) (.ref A_ParseError) = some true) : FnG P w K mg base 10 f 1 (spOf (aCons (rUn (rDt K) (rUn (rNum CN) rD0)) aNil) (rDt K) m__law_read) := by
  refine PF.Fun.okG F sc__law_read bn (fun cdv A outer s H vs Q hgd hr h => ⟨_, (pss_one (ps_try_as (i := 1) rfl rfl sc__law_read.nd rfl rfl ⟨rfl, by decide, .inl Y_ParseError.gl⟩ takes0 (fun W pn xe tk _ => (pss_one (ps_ret (pe_c1 G__law_form (hr.mono (by decide)) (pa_cons (pe_cmX tk GCX_read (hr.mono (by decide)) (pe_glob (v := .ref CN) rfl TN.gN rfl) (pa_cons (pv 0) pa_nil)) pa_nil))))) (fun a oe cls d pn hz hf => (pss_one (ps_ret (pe_ifExp (pt_cmpR op_eq (pe_callB (call_repr (have h := hgd; h) (have h := hu100 hr; h) : CallR _ (.builtin "repr") (rRepr K)) (by rfl) fr.b_repr (by decide +kernel) (pa_cons (pe_xf Y_ParseError.xf Y_ParseError.nof hz hf (pv 1)) pa_nil)) pe_str (nomark _)) pe_non pe_str)))))), ?_⟩)
  refine fn_body (X := E0) (S := (aCons (rUn (rDt K) (rUn (rNum CN) rD0)) aNil)) (E' := eNil) (R := (rDt K)) (st_par (st_un st_nil)) rfl (s_tryAs (E1 := fun a cls d => eNil) (i := 1) (sb_retF (set_ofF (plx_val (plx_un plx_nil)) (fun σ0 W => (e_dat (dp_tx (dpa_cons dp_int (dpa_cons dp_int (dpa_cons dp_int (dpa_cons dp_int dpa_nil))))) (e_callR (a_cons (e_cmX wAt (sa_safe (a_cons (e_var (gAt get0)) a_nil))) (sa_safe a_nil))))))) (.cons Y_ParseError.gl E_ParseError_ParseError .nil) (fun a cls d => pu1) (fun a cls d => (s_ret (e_dat (dp_opt dp_str) (e_if (t_of (e_op (o_eq sc_str) (e_ca c_reprDt (a_cons (e_xf (fl := flE) Y_ParseError.gl (by decide +kernel) gt1) a_nil)) e_str)) (e_coeX (Rb := (rOpt rStr)) coe_none e_non) (e_coeX (coe_some nn_str) e_str))))) (fun a cls d => put_nil) put_nil) ?_
  exact h
end
section
variable {P : Program} {w : World} {K : PySem.W.Frag} {mg : Str → Option Value} {base : Heap} {f CO CN CF CE : Addr} {fd : FuncData}
theorem sc__law_right : FnScope ["_law_dice_here", "_law_root", "_law_parts", "_law_form_here", "_law_text_here", "_law_turn", "_law_bent_here", "_law_top", "_law_part", "_law_side", "_law_bottom", "_law_one", "_law_odd", "_law_bad"] ["_law_dice_here"] (defScope (topS 41)) := ⟨rfl, rfl, rfl, by decide +kernel, rfl, by decide +kernel, by decide +kernel⟩
noncomputable def b__law_right (ρ : (Unit × (Unit × (Unit × (Unit × (Unit × (Unit × (Unit × (Unit × (Unit × (Unit × (Unit × (Unit × (Unit × (Unit × Unit))))))))))))))) : M (Ct Unit Unit Bool) := (M.thn (M.bind (M.bind (M.bind (M.bind (M.ret (0 : Int)) fun x11 => M.bind (M.bind (M.ret (2 : Int)) fun x9 => M.bind (M.bind (M.ret (5 : Int)) fun x7 => M.bind (M.bind (M.ret (7 : Int)) fun x5 => M.bind (M.bind (M.ret (30 : Int)) fun x3 => M.bind (M.bind (M.ret (997 : Int)) fun x1 => M.bind (M.ret ()) fun x2 => M.ret (x1, x2)) fun x4 => M.ret (x3, x4)) fun x6 => M.ret (x5, x6)) fun x8 => M.ret (x7, x8)) fun x10 => M.ret (x9, x10)) fun x12 => M.ret (x11, x12)) fun r13 => M.ret [r13.1, r13.2.1, r13.2.2.1, r13.2.2.2.1, r13.2.2.2.2.1, r13.2.2.2.2.2.1]) fun x14 => M.pick x14) fun x15 => M.ret (.nx (ρ.1, x15, ρ.2.2))) fun ρ => (M.thn (M.bind (M.bind (M.bind (M.ret ρ.2.1) fun x16 => M.bind (M.ret ()) fun x17 => M.ret (x16, x17)) fun r18 => m__law_parts_drawn r18) fun x19 => M.ret (.nx (ρ.1, ρ.2.1, x19, ρ.2.2.2))) fun ρ => (M.thn (M.bind (M.bind (M.bind (M.bind (M.ret ρ.2.2.1) fun x20 => M.ret x20.1) fun x30 => M.bind (M.bind (M.bind (M.ret ρ.2.2.1) fun x21 => M.ret x21.2.1) fun x28 => M.bind (M.bind (M.bind (M.ret ρ.2.2.1) fun x22 => M.ret x22.2.2.1) fun x26 => M.bind (M.bind (M.bind (M.ret ρ.2.2.1) fun x23 => M.ret x23.2.2.2.1) fun x24 => M.bind (M.ret ()) fun x25 => M.ret (x24, x25)) fun x27 => M.ret (x26, x27)) fun x29 => M.ret (x28, x29)) fun x31 => M.ret (x30, x31)) fun r32 => M.still (m__law_least r32)) fun x33 => M.ret (.nx (ρ.1, ρ.2.1, ρ.2.2.1, x33, ρ.2.2.2.2))) fun ρ => (M.thn (M.bind (M.bind (M.bind (M.ret ρ.2.2.2.1) fun x34 => M.bind (M.ret ()) fun x35 => M.ret (x34, x35)) fun r36 => M.still (m__law_text r36)) fun x37 => M.ret (.nx (ρ.1, ρ.2.1, ρ.2.2.1, ρ.2.2.2.1, x37, ρ.2.2.2.2.2))) fun ρ => (M.thn (M.bind (M.bind (M.bind (M.bind (M.bind (M.bind (M.ret ρ.2.2.1) fun x38 => M.bind (M.ret ()) fun x39 => M.ret (x38, x39)) fun r40 => M.still (m__law_made r40)) fun x41 => M.need (Gd 9000 x41) (M.ret (toldT (Nm.t x41) (Nm.p x41) (Nm.r x41) (Nm.b x41)))) fun x42 => M.bind (M.ret ρ.2.2.2.2.1) fun x43 => M.ret (!decide (x42 = x43))) fun x59 => M.ifb x59 (M.ret true) (M.bind (M.bind (M.bind (M.bind (M.bind (M.bind (M.ret ρ.2.2.2.2.1) fun x44 => M.ret (PyData.str x44)) fun x45 => M.ret (Sum.inl x45 : (Sum PyData (Sum Nm Unit)))) fun x46 => M.bind (M.ret ()) fun x47 => M.ret (x46, x47)) fun r48 => M.still (m__law_read r48)) fun x50 => M.bind (M.bind (M.ret ρ.2.2.2.1) fun x49 => M.ret ((fun (a : (Int × (Int × (Int × (Int × Unit))))) => PyData.tuple ((fun (a : (Int × (Int × (Int × (Int × Unit))))) => PyData.int a.1 :: (fun (a : (Int × (Int × (Int × Unit)))) => PyData.int a.1 :: (fun (a : (Int × (Int × Unit))) => PyData.int a.1 :: (fun (a : (Int × Unit)) => PyData.int a.1 :: (fun (_ : Unit) => ([] : List PyData)) a.2) a.2) a.2) a.2) a)) x49)) fun x51 => M.need ((x50.canLay0 = true ∧ x50.depth ≤ 64) ∧ (x51.canLay0 = true ∧ x51.depth ≤ 64)) (M.ret (!PyData.eqv x50 x51))) fun x58 => M.ifb x58 (M.ret true) (M.bind (M.bind (M.bind (M.ret ρ.2.2.2.2.1) fun x52 => M.bind (M.ret ()) fun x53 => M.ret (x52, x53)) fun r54 => M.still (m__law_told r54)) fun x56 => M.bind (M.bind (M.ret ρ.2.2.2.1) fun x55 => M.ret ((fun (a : (Int × (Int × (Int × (Int × Unit))))) => PyData.tuple ((fun (a : (Int × (Int × (Int × (Int × Unit))))) => PyData.int a.1 :: (fun (a : (Int × (Int × (Int × Unit)))) => PyData.int a.1 :: (fun (a : (Int × (Int × Unit))) => PyData.int a.1 :: (fun (a : (Int × Unit)) => PyData.int a.1 :: (fun (_ : Unit) => ([] : List PyData)) a.2) a.2) a.2) a.2) a)) x55)) fun x57 => M.need ((x56.canLay0 = true ∧ x56.depth ≤ 64) ∧ (x57.canLay0 = true ∧ x57.depth ≤ 64)) (M.ret (!PyData.eqv x56 x57))))) fun x61 => M.ifb x61 (M.bind (M.ret false) fun x60 => M.ret (.rt x60)) (M.ret (.nx ρ))) fun ρ => (M.thn (M.bind (M.bind (M.ret (4 : Int)) fun x62 => M.need (-(2 ^ 62) ≤ x62 ∧ x62 < 2 ^ 62) (M.ret (rng 0 x62))) fun l86 => M.forM l86 (fun (a63 : Int) (ρ : (Unit × (Int × ((Int × (Int × (Int × (Int × Unit)))) × ((Int × (Int × (Int × (Int × Unit)))) × (Str × (Unit × (Unit × (Unit × (Unit × (Unit × (Unit × (Unit × (Unit × (Unit × Unit))))))))))))))) => (fun ρ => (M.thn (M.thn (M.bind (M.bind (M.bind (M.ret ρ.2.2.2.2.1) fun x64 => M.bind (M.ret ()) fun x65 => M.ret (x64, x65)) fun r66 => m__law_bent r66) fun x67 => M.ret (.nx (ρ.1, ρ.2.1, ρ.2.2.1, ρ.2.2.2.1, ρ.2.2.2.2.1, ρ.2.2.2.2.2.1, x67, ρ.2.2.2.2.2.2.2))) fun ρ => (M.bind (M.bind (M.bind (M.bind (M.bind (M.bind (M.bind (M.bind (M.ret ρ.2.2.2.2.2.2.1) fun x68 => M.ret (PyData.str x68)) fun x69 => M.ret (Sum.inl x69 : (Sum PyData (Sum Nm Unit)))) fun x70 => M.bind (M.ret ()) fun x71 => M.ret (x70, x71)) fun r72 => M.still (m__law_read r72)) fun x73 => M.bind (M.ret ()) fun x74 => M.ret (x73, x74)) fun r75 => M.need (r75.1.showable = true ∧ r75.1.hasDict = false ∧ r75.1.shown.length ≤ sizeLine ∧ r75.1.depth ≤ 64) (M.ret r75.1.shown)) fun x82 => M.bind (M.bind (M.bind (M.bind (M.bind (M.ret ρ.2.2.2.2.2.2.1) fun x76 => M.bind (M.ret ()) fun x77 => M.ret (x76, x77)) fun r78 => M.still (m__law_told r78)) fun x79 => M.bind (M.ret ()) fun x80 => M.ret (x79, x80)) fun r81 => M.need (r81.1.showable = true ∧ r81.1.hasDict = false ∧ r81.1.shown.length ≤ sizeLine ∧ r81.1.depth ≤ 64) (M.ret r81.1.shown)) fun x83 => M.ret (!decide (x82 = x83))) fun x85 => M.ifb x85 (M.bind (M.ret false) fun x84 => M.ret (.rt x84)) (M.ret (.nx ρ)))) fun ρ => M.ret (.nx (ρ.1, ρ.2.1, ρ.2.2.1, ρ.2.2.2.1, ρ.2.2.2.2.1, (), (), ρ.2.2.2.2.2.2.2.1, ρ.2.2.2.2.2.2.2.2.1, ρ.2.2.2.2.2.2.2.2.2.1, ρ.2.2.2.2.2.2.2.2.2.2.1, ρ.2.2.2.2.2.2.2.2.2.2.2.1, ρ.2.2.2.2.2.2.2.2.2.2.2.2.1, ρ.2.2.2.2.2.2.2.2.2.2.2.2.2.1, ρ.2.2.2.2.2.2.2.2.2.2.2.2.2.2)))) (ρ.1, ρ.2.1, ρ.2.2.1, ρ.2.2.2.1, ρ.2.2.2.2.1, a63, ρ.2.2.2.2.2.2)) ρ) fun ρ => (M.thn (M.bind (M.bind (M.bind (M.bind (M.ret ρ.2.2.2.1) fun x87 => M.ret [x87.1, x87.2.1, x87.2.2.1, x87.2.2.2.1]) fun l92 => M.need (l92.length ≤ 1000000) (M.lcM l92 fun (a93 : Int) => M.bind ((fun ρ => (M.ret true)) (ρ.1, ρ.2.1, ρ.2.2.1, ρ.2.2.2.1, ρ.2.2.2.2.1, ρ.2.2.2.2.2.1, ρ.2.2.2.2.2.2.1, ρ.2.2.2.2.2.2.2.1, ρ.2.2.2.2.2.2.2.2.1, ρ.2.2.2.2.2.2.2.2.2.1, ρ.2.2.2.2.2.2.2.2.2.2.1, a93, ρ.2.2.2.2.2.2.2.2.2.2.2.2)) fun (b94 : Bool) => M.ifb b94 (M.bind ((fun ρ => (M.bind (M.bind (M.ret ρ.2.2.2.2.2.2.2.2.2.2.2.1) fun x88 => M.bind (M.ret ()) fun x89 => M.ret (x88, x89)) fun r90 => M.need (Nat.log2 (Int.natAbs r90.1) < 1920) (M.ret (Str.ofString (toString r90.1))))) (ρ.1, ρ.2.1, ρ.2.2.1, ρ.2.2.2.1, ρ.2.2.2.2.1, ρ.2.2.2.2.2.1, ρ.2.2.2.2.2.2.1, ρ.2.2.2.2.2.2.2.1, ρ.2.2.2.2.2.2.2.2.1, ρ.2.2.2.2.2.2.2.2.2.1, ρ.2.2.2.2.2.2.2.2.2.2.1, a93, ρ.2.2.2.2.2.2.2.2.2.2.2.2)) fun (y95 : Str) => M.ret (some y95)) (M.ret none))) fun x96 => M.the ((lxS (lxS (lxS (lxS lx0)))) x96)) fun x97 => M.ret (.nx (ρ.1, ρ.2.1, ρ.2.2.1, ρ.2.2.2.1, ρ.2.2.2.2.1, ρ.2.2.2.2.2.1, ρ.2.2.2.2.2.2.1, x97.1, x97.2.1, x97.2.2.1, x97.2.2.2.1, ρ.2.2.2.2.2.2.2.2.2.2.2.1, ρ.2.2.2.2.2.2.2.2.2.2.2.2.1, ρ.2.2.2.2.2.2.2.2.2.2.2.2.2.1, ρ.2.2.2.2.2.2.2.2.2.2.2.2.2.2))) fun ρ => (M.thn (M.bind (M.bind (M.bind (M.ret ("" : Str)) fun x134 => M.bind (M.bind (M.ret ("r" : Str)) fun x132 => M.bind (M.bind (M.ret ("r2" : Str)) fun x130 => M.bind (M.bind (M.ret ("1r" : Str)) fun x128 => M.bind (M.bind (M.bind (M.ret ("+" : Str)) fun x98 => M.bind (M.ret ρ.2.2.2.2.1) fun x99 => M.need (Str.length x98 + Str.length x99 ≤ sizeLine) (M.ret (x98 ++ x99))) fun x126 => M.bind (M.bind (M.bind (M.ret ρ.2.2.2.2.1) fun x100 => M.bind (M.ret (" " : Str)) fun x101 => M.need (Str.length x100 + Str.length x101 ≤ sizeLine) (M.ret (x100 ++ x101))) fun x124 => M.bind (M.bind (M.bind (M.ret (" " : Str)) fun x102 => M.bind (M.ret ρ.2.2.2.2.1) fun x103 => M.need (Str.length x102 + Str.length x103 ≤ sizeLine) (M.ret (x102 ++ x103))) fun x122 => M.bind (M.bind (M.bind (M.bind (M.ret ("(" : Str)) fun x104 => M.bind (M.ret ρ.2.2.2.2.1) fun x105 => M.need (Str.length x104 + Str.length x105 ≤ sizeLine) (M.ret (x104 ++ x105))) fun x106 => M.bind (M.ret (")" : Str)) fun x107 => M.need (Str.length x106 + Str.length x107 ≤ sizeLine) (M.ret (x106 ++ x107))) fun x120 => M.bind (M.bind (M.bind (M.ret ρ.2.2.2.2.2.2.2.1) fun x108 => M.bind (M.ret ("/1" : Str)) fun x109 => M.need (Str.length x108 + Str.length x109 ≤ sizeLine) (M.ret (x108 ++ x109))) fun x118 => M.bind (M.bind (M.ret ("-0" : Str)) fun x116 => M.bind (M.bind (M.ret ("0r2" : Str)) fun x114 => M.bind (M.bind (M.ret ("1r1" : Str)) fun x112 => M.bind (M.bind (M.ret ("1r4" : Str)) fun x110 => M.bind (M.ret ()) fun x111 => M.ret (x110, x111)) fun x113 => M.ret (x112, x113)) fun x115 => M.ret (x114, x115)) fun x117 => M.ret (x116, x117)) fun x119 => M.ret (x118, x119)) fun x121 => M.ret (x120, x121)) fun x123 => M.ret (x122, x123)) fun x125 => M.ret (x124, x125)) fun x127 => M.ret (x126, x127)) fun x129 => M.ret (x128, x129)) fun x131 => M.ret (x130, x131)) fun x133 => M.ret (x132, x133)) fun x135 => M.ret (x134, x135)) fun r136 => M.ret [r136.1, r136.2.1, r136.2.2.1, r136.2.2.2.1, r136.2.2.2.2.1, r136.2.2.2.2.2.1, r136.2.2.2.2.2.2.1, r136.2.2.2.2.2.2.2.1, r136.2.2.2.2.2.2.2.2.1, r136.2.2.2.2.2.2.2.2.2.1, r136.2.2.2.2.2.2.2.2.2.2.1, r136.2.2.2.2.2.2.2.2.2.2.2.1, r136.2.2.2.2.2.2.2.2.2.2.2.2.1]) fun x137 => M.ret (.nx (ρ.1, ρ.2.1, ρ.2.2.1, ρ.2.2.2.1, ρ.2.2.2.2.1, ρ.2.2.2.2.2.1, ρ.2.2.2.2.2.2.1, ρ.2.2.2.2.2.2.2.1, ρ.2.2.2.2.2.2.2.2.1, ρ.2.2.2.2.2.2.2.2.2.1, ρ.2.2.2.2.2.2.2.2.2.2.1, ρ.2.2.2.2.2.2.2.2.2.2.2.1, x137, ρ.2.2.2.2.2.2.2.2.2.2.2.2.2))) fun ρ => (M.thn (M.bind (M.bind (M.ret ρ.2.2.2.2.2.2.2.2.2.2.2.2.1) fun x163 => M.bind (M.bind (M.bind (M.ret ("1r1009" : Str)) fun x160 => M.bind (M.bind (M.ret ("1r02" : Str)) fun x158 => M.bind (M.bind (M.ret ("00" : Str)) fun x156 => M.bind (M.bind (M.ret ("2+0r3" : Str)) fun x154 => M.bind (M.bind (M.ret ("0+1r3" : Str)) fun x152 => M.bind (M.bind (M.ret ("1+-2r3" : Str)) fun x150 => M.bind (M.bind (M.ret ("1r2+3" : Str)) fun x148 => M.bind (M.bind (M.ret ("2/4" : Str)) fun x146 => M.bind (M.bind (M.ret ("(2+4r5)/6" : Str)) fun x144 => M.bind (M.bind (M.ret ("1/0" : Str)) fun x142 => M.bind (M.bind (M.ret ("1/-2" : Str)) fun x140 => M.bind (M.bind (M.ret ("1r2r3" : Str)) fun x138 => M.bind (M.ret ()) fun x139 => M.ret (x138, x139)) fun x141 => M.ret (x140, x141)) fun x143 => M.ret (x142, x143)) fun x145 => M.ret (x144, x145)) fun x147 => M.ret (x146, x147)) fun x149 => M.ret (x148, x149)) fun x151 => M.ret (x150, x151)) fun x153 => M.ret (x152, x153)) fun x155 => M.ret (x154, x155)) fun x157 => M.ret (x156, x157)) fun x159 => M.ret (x158, x159)) fun x161 => M.ret (x160, x161)) fun r162 => M.ret [r162.1, r162.2.1, r162.2.2.1, r162.2.2.2.1, r162.2.2.2.2.1, r162.2.2.2.2.2.1, r162.2.2.2.2.2.2.1, r162.2.2.2.2.2.2.2.1, r162.2.2.2.2.2.2.2.2.1, r162.2.2.2.2.2.2.2.2.2.1, r162.2.2.2.2.2.2.2.2.2.2.1, r162.2.2.2.2.2.2.2.2.2.2.2.1]) fun x164 => M.need (x163.length + x164.length ≤ sizeLine) (M.ret (x163 ++ x164))) fun x165 => M.ret (.nx (ρ.1, ρ.2.1, ρ.2.2.1, ρ.2.2.2.1, ρ.2.2.2.2.1, ρ.2.2.2.2.2.1, ρ.2.2.2.2.2.2.1, ρ.2.2.2.2.2.2.2.1, ρ.2.2.2.2.2.2.2.2.1, ρ.2.2.2.2.2.2.2.2.2.1, ρ.2.2.2.2.2.2.2.2.2.2.1, ρ.2.2.2.2.2.2.2.2.2.2.2.1, x165, ρ.2.2.2.2.2.2.2.2.2.2.2.2.2))) fun ρ => (M.thn (M.bind (M.bind (M.ret ρ.2.2.2.2.2.2.2.2.2.2.2.2.1) fun x199 => M.bind (M.bind (M.bind (M.bind (M.bind (M.bind (M.bind (M.ret ρ.2.2.2.2.2.2.2.1) fun x166 => M.bind (M.ret ("+" : Str)) fun x167 => M.need (Str.length x166 + Str.length x167 ≤ sizeLine) (M.ret (x166 ++ x167))) fun x168 => M.bind (M.ret ρ.2.2.2.2.2.2.2.2.1) fun x169 => M.need (Str.length x168 + Str.length x169 ≤ sizeLine) (M.ret (x168 ++ x169))) fun x170 => M.bind (M.ret ("r" : Str)) fun x171 => M.need (Str.length x170 + Str.length x171 ≤ sizeLine) (M.ret (x170 ++ x171))) fun x172 => M.bind (M.ret ρ.2.2.2.2.2.2.2.2.2.1) fun x173 => M.need (Str.length x172 + Str.length x173 ≤ sizeLine) (M.ret (x172 ++ x173))) fun x196 => M.bind (M.bind (M.bind (M.bind (M.bind (M.ret ("(" : Str)) fun x174 => M.bind (M.ret ρ.2.2.2.2.2.2.2.1) fun x175 => M.need (Str.length x174 + Str.length x175 ≤ sizeLine) (M.ret (x174 ++ x175))) fun x176 => M.bind (M.ret (")/" : Str)) fun x177 => M.need (Str.length x176 + Str.length x177 ≤ sizeLine) (M.ret (x176 ++ x177))) fun x178 => M.bind (M.ret ρ.2.2.2.2.2.2.2.2.2.2.1) fun x179 => M.need (Str.length x178 + Str.length x179 ≤ sizeLine) (M.ret (x178 ++ x179))) fun x194 => M.bind (M.bind (M.ret ("1r8" : Str)) fun x192 => M.bind (M.bind (M.ret ("3/" : Str)) fun x190 => M.bind (M.bind (M.ret ("/3" : Str)) fun x188 => M.bind (M.bind (M.ret ("()" : Str)) fun x186 => M.bind (M.bind (M.ret ("1.5" : Str)) fun x184 => M.bind (M.bind (M.ret ("1e3" : Str)) fun x182 => M.bind (M.bind (M.ret ("()/2" : Str)) fun x180 => M.bind (M.ret ()) fun x181 => M.ret (x180, x181)) fun x183 => M.ret (x182, x183)) fun x185 => M.ret (x184, x185)) fun x187 => M.ret (x186, x187)) fun x189 => M.ret (x188, x189)) fun x191 => M.ret (x190, x191)) fun x193 => M.ret (x192, x193)) fun x195 => M.ret (x194, x195)) fun x197 => M.ret (x196, x197)) fun r198 => M.ret [r198.1, r198.2.1, r198.2.2.1, r198.2.2.2.1, r198.2.2.2.2.1, r198.2.2.2.2.2.1, r198.2.2.2.2.2.2.1, r198.2.2.2.2.2.2.2.1, r198.2.2.2.2.2.2.2.2.1]) fun x200 => M.need (x199.length + x200.length ≤ sizeLine) (M.ret (x199 ++ x200))) fun x201 => M.ret (.nx (ρ.1, ρ.2.1, ρ.2.2.1, ρ.2.2.2.1, ρ.2.2.2.2.1, ρ.2.2.2.2.2.1, ρ.2.2.2.2.2.2.1, ρ.2.2.2.2.2.2.2.1, ρ.2.2.2.2.2.2.2.2.1, ρ.2.2.2.2.2.2.2.2.2.1, ρ.2.2.2.2.2.2.2.2.2.2.1, ρ.2.2.2.2.2.2.2.2.2.2.2.1, x201, ρ.2.2.2.2.2.2.2.2.2.2.2.2.2))) fun ρ => (M.thn (M.bind (M.bind (M.bind (M.ret ρ.2.2.2.2.2.2.2.2.2.2.2.2.1) fun l219 => M.need (l219.length ≤ 1000000) (M.lcM l219 fun (a220 : Str) => M.bind ((fun ρ => (M.bind (M.bind (M.bind (M.bind (M.bind (M.bind (M.bind (M.ret ρ.2.2.2.2.2.2.2.2.2.2.2.1) fun x202 => M.ret (PyData.str x202)) fun x203 => M.ret (Sum.inl x203 : (Sum PyData (Sum Nm Unit)))) fun x204 => M.bind (M.ret ()) fun x205 => M.ret (x204, x205)) fun r206 => M.still (m__law_read r206)) fun x207 => M.bind (M.ret ()) fun x208 => M.ret (x207, x208)) fun r209 => M.need (r209.1.showable = true ∧ r209.1.hasDict = false ∧ r209.1.shown.length ≤ sizeLine ∧ r209.1.depth ≤ 64) (M.ret r209.1.shown)) fun x216 => M.bind (M.bind (M.bind (M.bind (M.bind (M.ret ρ.2.2.2.2.2.2.2.2.2.2.2.1) fun x210 => M.bind (M.ret ()) fun x211 => M.ret (x210, x211)) fun r212 => M.still (m__law_told r212)) fun x213 => M.bind (M.ret ()) fun x214 => M.ret (x213, x214)) fun r215 => M.need (r215.1.showable = true ∧ r215.1.hasDict = false ∧ r215.1.shown.length ≤ sizeLine ∧ r215.1.depth ≤ 64) (M.ret r215.1.shown)) fun x217 => M.ret (!decide (x216 = x217)))) (ρ.1, ρ.2.1, ρ.2.2.1, ρ.2.2.2.1, ρ.2.2.2.2.1, ρ.2.2.2.2.2.1, ρ.2.2.2.2.2.2.1, ρ.2.2.2.2.2.2.2.1, ρ.2.2.2.2.2.2.2.2.1, ρ.2.2.2.2.2.2.2.2.2.1, ρ.2.2.2.2.2.2.2.2.2.2.1, a220, ρ.2.2.2.2.2.2.2.2.2.2.2.2)) fun (b221 : Bool) => M.ifb b221 (M.bind ((fun ρ => (M.ret ρ.2.2.2.2.2.2.2.2.2.2.2.1)) (ρ.1, ρ.2.1, ρ.2.2.1, ρ.2.2.2.1, ρ.2.2.2.2.1, ρ.2.2.2.2.2.1, ρ.2.2.2.2.2.2.1, ρ.2.2.2.2.2.2.2.1, ρ.2.2.2.2.2.2.2.2.1, ρ.2.2.2.2.2.2.2.2.2.1, ρ.2.2.2.2.2.2.2.2.2.2.1, a220, ρ.2.2.2.2.2.2.2.2.2.2.2.2)) fun (y222 : Str) => M.ret (some y222)) (M.ret none))) fun x223 => M.bind (M.bind (M.ret ()) fun _ => M.ret ([] : (List Str))) fun x224 => M.need (((fun (xs : (List Str)) => PyData.list (xs.map PyData.str)) x223).canLay0 = true ∧ ((fun (xs : (List Str)) => PyData.list (xs.map PyData.str)) x224).canLay0 = true) (M.ret (!PyData.eqv ((fun (xs : (List Str)) => PyData.list (xs.map PyData.str)) x223) ((fun (xs : (List Str)) => PyData.list (xs.map PyData.str)) x224)))) fun x226 => M.ifb x226 (M.bind (M.ret false) fun x225 => M.ret (.rt x225)) (M.ret (.nx ρ))) fun ρ => (M.thn (M.bind (M.bind (M.bind (M.bind (M.bind (M.bind (M.ret ()) fun x227 => M.ret ((fun _ => PyData.none) x227)) fun x228 => M.ret (Sum.inl x228 : (Sum PyData (Sum Nm Unit)))) fun x264 => M.bind (M.bind (M.bind (M.bind (M.ret (5 : Int)) fun x229 => M.ret (PyData.int x229)) fun x230 => M.ret (Sum.inl x230 : (Sum PyData (Sum Nm Unit)))) fun x262 => M.bind (M.bind (M.bind (M.bind (M.bind (M.ret ρ.2.2.2.2.1) fun x231 => M.bind (M.ret ()) fun x232 => M.ret (x231, x232)) fun x234 => M.ret ((fun (a : (Str × Unit)) => PyData.tuple ((fun (a : (Str × Unit)) => PyData.str a.1 :: (fun (_ : Unit) => ([] : List PyData)) a.2) a)) x234)) fun x235 => M.ret (Sum.inl x235 : (Sum PyData (Sum Nm Unit)))) fun x260 => M.bind (M.bind (M.bind (M.bind (M.bind (M.bind (M.ret ρ.2.2.2.2.1) fun x236 => M.bind (M.ret ()) fun x237 => M.ret (x236, x237)) fun r238 => M.ret [r238.1]) fun x239 => M.ret ((fun (xs : (List Str)) => PyData.list (xs.map PyData.str)) x239)) fun x240 => M.ret (Sum.inl x240 : (Sum PyData (Sum Nm Unit)))) fun x258 => M.bind (M.bind (M.bind (M.bind (M.ret ()) fun x241 => M.ret (PyData.dict [])) fun x242 => M.ret (Sum.inl x242 : (Sum PyData (Sum Nm Unit)))) fun x256 => M.bind (M.bind (M.bind (M.bind (M.bind (M.ret (1 : Int)) fun x243 => M.ret (mkNm x243 0 0 1)) fun x244 => M.ret (Sum.inl x244 : (Sum Nm Unit))) fun x245 => M.ret (Sum.inr x245 : (Sum PyData (Sum Nm Unit)))) fun x254 => M.bind (M.bind (M.bind (M.bind (M.ret true) fun x246 => M.ret (PyData.bool x246)) fun x247 => M.ret (Sum.inl x247 : (Sum PyData (Sum Nm Unit)))) fun x252 => M.bind (M.bind (M.bind (M.bind (M.ret ()) fun x248 => M.ret ((fun (a : Unit) => PyData.tuple ((fun (_ : Unit) => ([] : List PyData)) a)) x248)) fun x249 => M.ret (Sum.inl x249 : (Sum PyData (Sum Nm Unit)))) fun x250 => M.bind (M.ret ()) fun x251 => M.ret (x250, x251)) fun x253 => M.ret (x252, x253)) fun x255 => M.ret (x254, x255)) fun x257 => M.ret (x256, x257)) fun x259 => M.ret (x258, x259)) fun x261 => M.ret (x260, x261)) fun x263 => M.ret (x262, x263)) fun x265 => M.ret (x264, x265)) fun r266 => M.ret [r266.1, r266.2.1, r266.2.2.1, r266.2.2.2.1, r266.2.2.2.2.1, r266.2.2.2.2.2.1, r266.2.2.2.2.2.2.1, r266.2.2.2.2.2.2.2.1]) fun x267 => M.pick x267) fun x268 => M.ret (.nx (ρ.1, ρ.2.1, ρ.2.2.1, ρ.2.2.2.1, ρ.2.2.2.2.1, ρ.2.2.2.2.2.1, ρ.2.2.2.2.2.2.1, ρ.2.2.2.2.2.2.2.1, ρ.2.2.2.2.2.2.2.2.1, ρ.2.2.2.2.2.2.2.2.2.1, ρ.2.2.2.2.2.2.2.2.2.2.1, ρ.2.2.2.2.2.2.2.2.2.2.2.1, ρ.2.2.2.2.2.2.2.2.2.2.2.2.1, x268, ρ.2.2.2.2.2.2.2.2.2.2.2.2.2.2))) fun ρ => (M.bind (M.bind (M.bind (M.bind (M.ret ρ.2.2.2.2.2.2.2.2.2.2.2.2.2.1) fun x269 => M.bind (M.ret ()) fun x270 => M.ret (x269, x270)) fun r271 => M.still (m__law_read r271)) fun x272 => M.bind (M.ret ()) fun x273 => M.ret (isNoneD x272)) fun x274 => M.ret (.rt x274))))))))))))))
noncomputable def m__law_right (a : Unit) : M Bool := M.fin (b__law_right ((), ((), ((), ((), ((), ((), ((), ((), ((), ((), ((), ((), ((), ((), ())))))))))))))))
theorem ok__law_right (F : Fun K "_law_right" "_law_right" (topS 41) f fd) (bn : Binds K fd ["_law_dice_here"] []) (G__law_pick : GD P w K mg base "_law_pick" 3 spPick) (G__law_parts_drawn : GD P w K mg base "_law_parts_drawn" 4 (spOfD (aCons rInt aNil) (rTx K (aCons rInt (aCons rInt (aCons rInt (aCons rInt aNil))))) m__law_parts_drawn)) (G__law_least : GD P w K mg base "_law_least" 3 (spOf (aCons rInt (aCons rInt (aCons rInt (aCons rInt aNil)))) (rTx K (aCons rInt (aCons rInt (aCons rInt (aCons rInt aNil))))) m__law_least)) (G__law_text : GD P w K mg base "_law_text" 2 (spOf (aCons (rTx K (aCons rInt (aCons rInt (aCons rInt (aCons rInt aNil))))) aNil) rStr m__law_text)) (G__law_made : GD P w K mg base "_law_made" 8 (spOf (aCons (rTx K (aCons rInt (aCons rInt (aCons rInt (aCons rInt aNil))))) aNil) (rNum CN) m__law_made)) (TN : NTxt K mg CN CF) (S_str : GS P w K mg base CN 3 (spStr CN)) (G__law_read : GG P w K mg base "_law_read" 10 1 (spOf (aCons (rUn (rDt K) (rUn (rNum CN) rD0)) aNil) (rDt K) m__law_read)) (G__law_told : GD P w K mg base "_law_told" 4 (spOf (aCons rStr aNil) (rDt K) m__law_told)) (fr : Free mg) (G__law_bent : GD P w K mg base "_law_bent" 3 (spOfD (aCons rStr aNil) rStr m__law_bent)) (G_Number : GM P w K mg base "Number" CN 6 [.int 0, .int 0, .int 1] (spNumI CN CF)) : FnG P w K mg base 11 f 1 (spOfD aNil rBl m__law_right) := by
  refine PF.Fun.okG F sc__law_right bn (fun cdv A outer s H vs Q hgd hr h => ⟨_, (pss_cons (ps_set (i := 1) sc__law_right.nd rfl (by first | exact Or.inl rfl | exact Or.inr rfl) (pe_c1 G__law_pick (hr.mono (by decide)) (pa_cons (pv 0) (pa_cons (pe_lst (pa_cons pe_int (pa_cons pe_int (pa_cons pe_int (pa_cons pe_int (pa_cons pe_int (pa_cons pe_int pa_nil))))))) pa_nil))))
  (pss_cons (ps_set (i := 2) sc__law_right.nd rfl (by first | exact Or.inl rfl | exact Or.inr rfl) (pe_c1 G__law_parts_drawn (hr.mono (by decide)) (pa_cons (pv 0) (pa_cons (pv 1) pa_nil))))
  (pss_cons (ps_set (i := 3) sc__law_right.nd rfl (by first | exact Or.inl rfl | exact Or.inr rfl) (pe_c1 G__law_least (hr.mono (by decide)) (pa_cons (pe_ix (ix_tup : IxR _ (rIxT K)) (pv 2) pe_int (fun _ _ => rfl)) (pa_cons (pe_ix (ix_tup : IxR _ (rIxT K)) (pv 2) pe_int (fun _ _ => rfl)) (pa_cons (pe_ix (ix_tup : IxR _ (rIxT K)) (pv 2) pe_int (fun _ _ => rfl)) (pa_cons (pe_ix (ix_tup : IxR _ (rIxT K)) (pv 2) pe_int (fun _ _ => rfl)) pa_nil))))))
  (pss_cons (ps_set (i := 4) sc__law_right.nd rfl (by first | exact Or.inl rfl | exact Or.inr rfl) (pe_c1 G__law_text (hr.mono (by decide)) (pa_cons (pv 3) pa_nil)))
  (pss_cons (ps_if (PW.pt (pw_or (pt_cmpR op_ne (pe_callTy (call_strN S_str (hr.mono (by decide))) (by rfl) fr.b_str (by decide +kernel) (pa_cons (pe_c1 G__law_made (hr.mono (by decide)) (pa_cons (pv 2) pa_nil)) pa_nil)) (pv 4) (nomark _)) (pw_or (pt_cmpR (op_neD (have h := hu64 hr; h) : OpR _ _ (rNeD K)) (pe_gd G__law_read hgd (hr.mono (by decide)) (pa_cons (pv 4) pa_nil) (by rfl)) (pv 3) (nomark _)) (pw_or1 (pt_cmpR (op_neD (have h := hu64 hr; h) : OpR _ _ (rNeD K)) (pe_c1 G__law_told (hr.mono (by decide)) (pa_cons (pv 4) pa_nil)) (pv 3) (nomark _)))))) (pss_one (ps_ret pe_bl)) pss_nil)
  (pss_cons (ps_for PassesOwn.never rfl (pi_range1 (by rfl) fr.b_range (pa_cons pe_int pa_nil)) (pg_name (i := 5) sc__law_right.nd rfl (by first | exact Or.inl rfl | exact Or.inr rfl)) (pss_cons (ps_set (i := 6) sc__law_right.nd rfl (by first | exact Or.inl rfl | exact Or.inr rfl) (pe_c1 G__law_bent (hr.mono (by decide)) (pa_cons (pv 0) (pa_cons (pv 4) pa_nil))))
  (pss_one (ps_if (pt_cmpR op_ne (pe_callB (call_repr hgd (hu100 hr)) (by rfl) fr.b_repr (by decide +kernel) (pa_cons (pe_gd G__law_read hgd (hr.mono (by decide)) (pa_cons (pv 6) pa_nil) (by rfl)) pa_nil)) (pe_callB (call_repr hgd (hu100 hr)) (by rfl) fr.b_repr (by decide +kernel) (pa_cons (pe_c1 G__law_told (hr.mono (by decide)) (pa_cons (pv 6) pa_nil)) pa_nil)) (nomark _)) (pss_one (ps_ret pe_bl)) pss_nil))))
  (pss_cons (ps_asg (pe_lc (own := [("_law_one", 11)]) (by rfl) sc__law_right.nd  (pi_tup (pv 3)) (blkOk_by (own := [("_law_one", 11)]) (N := ["_law_dice_here", "_law_root", "_law_parts", "_law_form_here", "_law_text_here", "_law_turn", "_law_bent_here", "_law_top", "_law_part", "_law_side", "_law_bottom", "_law_one", "_law_odd", "_law_bad"]) (sc := defScope (topS 41)) (by decide +kernel)) (fun _ _ _ _ _ => (pg_name (i := 11) sc__law_right.nd rfl (by first | exact Or.inl rfl | exact Or.inr rfl))) (fun _ _ _ _ _ => pts_nil) (fun _ _ _ _ _ => (pe_callTy call_str_int (by rfl) fr.b_str (by decide +kernel) (pa_cons (pv 11) pa_nil)))) (pg_lst (by rfl) (pgs_cons (pg_name (i := 7) sc__law_right.nd rfl (by first | exact Or.inl rfl | exact Or.inr rfl)) (pgs_cons (pg_name (i := 8) sc__law_right.nd rfl (by first | exact Or.inl rfl | exact Or.inr rfl)) (pgs_cons (pg_name (i := 9) sc__law_right.nd rfl (by first | exact Or.inl rfl | exact Or.inr rfl)) (pgs_cons (pg_name (i := 10) sc__law_right.nd rfl (by first | exact Or.inl rfl | exact Or.inr rfl)) pgs_nil))))))
  (pss_cons (ps_set (i := 12) sc__law_right.nd rfl (by first | exact Or.inl rfl | exact Or.inr rfl) (pe_lst (pa_cons pe_str (pa_cons pe_str (pa_cons pe_str (pa_cons pe_str (pa_cons (pe_op op_add_str pe_str (pv 4)) (pa_cons (pe_op op_add_str (pv 4) pe_str) (pa_cons (pe_op op_add_str pe_str (pv 4)) (pa_cons (pe_op op_add_str (pe_op op_add_str pe_str (pv 4)) pe_str) (pa_cons (pe_op op_add_str (pv 7) pe_str) (pa_cons pe_str (pa_cons pe_str (pa_cons pe_str (pa_cons pe_str pa_nil)))))))))))))))
  (pss_cons (ps_set (i := 12) sc__law_right.nd rfl (by first | exact Or.inl rfl | exact Or.inr rfl) (pe_op op_cat (pv 12) (pe_lst (pa_cons pe_str (pa_cons pe_str (pa_cons pe_str (pa_cons pe_str (pa_cons pe_str (pa_cons pe_str (pa_cons pe_str (pa_cons pe_str (pa_cons pe_str (pa_cons pe_str (pa_cons pe_str (pa_cons pe_str pa_nil)))))))))))))))
  (pss_cons (ps_set (i := 12) sc__law_right.nd rfl (by first | exact Or.inl rfl | exact Or.inr rfl) (pe_op op_cat (pv 12) (pe_lst (pa_cons (pe_op op_add_str (pe_op op_add_str (pe_op op_add_str (pe_op op_add_str (pv 7) pe_str) (pv 8)) pe_str) (pv 9)) (pa_cons (pe_op op_add_str (pe_op op_add_str (pe_op op_add_str pe_str (pv 7)) pe_str) (pv 10)) (pa_cons pe_str (pa_cons pe_str (pa_cons pe_str (pa_cons pe_str (pa_cons pe_str (pa_cons pe_str (pa_cons pe_str pa_nil))))))))))))
  (pss_cons (ps_if (pt_cmpR (op_neD (have h := hu64 hr; h) : OpR _ _ (rNeD K)) (pe_lc (own := [("_law_one", 11)]) (by rfl) sc__law_right.nd  (pi_list (pv 12)) (blkOk_by (own := [("_law_one", 11)]) (N := ["_law_dice_here", "_law_root", "_law_parts", "_law_form_here", "_law_text_here", "_law_turn", "_law_bent_here", "_law_top", "_law_part", "_law_side", "_law_bottom", "_law_one", "_law_odd", "_law_bad"]) (sc := defScope (topS 41)) (by decide +kernel)) (fun _ _ _ _ _ => (pg_name (i := 11) sc__law_right.nd rfl (by first | exact Or.inl rfl | exact Or.inr rfl))) (fun _ _ _ _ _ => (pts_one (pt_cmpR op_ne (pe_callB (call_repr (have h := hgd; h) (have h := hu100 hr; h) : CallR _ (.builtin "repr") (rRepr K)) (by rfl) fr.b_repr (by decide +kernel) (pa_cons (pe_gd G__law_read hgd (hr.mono (by decide)) (pa_cons (pv 11) pa_nil) (by rfl)) pa_nil)) (pe_callB (call_repr (have h := hgd; h) (have h := hu100 hr; h) : CallR _ (.builtin "repr") (rRepr K)) (by rfl) fr.b_repr (by decide +kernel) (pa_cons (pe_c1 G__law_told (hr.mono (by decide)) (pa_cons (pv 11) pa_nil)) pa_nil)) (nomark _)))) (fun _ _ _ _ _ => (pv 11))) (pe_lst pa_nil) (nomark _)) (pss_one (ps_ret pe_bl)) pss_nil)
  (pss_cons (ps_set (i := 13) sc__law_right.nd rfl (by first | exact Or.inl rfl | exact Or.inr rfl) (pe_c1 G__law_pick (hr.mono (by decide)) (pa_cons (pv 0) (pa_cons (pe_lst (pa_cons pe_non (pa_cons pe_int (pa_cons (pe_tup (pa_cons (pv 4) pa_nil)) (pa_cons (pe_lst (pa_cons (pv 4) pa_nil)) (pa_cons pe_dnewK (pa_cons (pe_m1 G_Number (hr.mono (by decide)) (pa_cons pe_int pa_nil)) (pa_cons pe_bl (pa_cons (pe_tup pa_nil) pa_nil))))))))) pa_nil))))
  (pss_one (ps_ret (pe_cmpR op_isN (pe_gd G__law_read hgd (hr.mono (by decide)) (pa_cons (pv 13) pa_nil) (by rfl)) pe_non (nomark _)))))))))))))))), ?_⟩)
  refine fn_bodyD (X := E0) (S := aNil) (E' := eNil) (R := rBl) (st_dice (st_un (st_un (st_un (st_un (st_un (st_un (st_un (st_un (st_un (st_un (st_un (st_un (st_un st_nil)))))))))))))) rfl (s_seq (s_asg (e_pick get0 (SN.se (n_lst (hom_cons (hom_cons (hom_cons (hom_cons (hom_cons (hom_cons hom_nil)))))) (a_cons e_int (a_cons e_int (a_cons e_int (a_cons e_int (a_cons e_int (a_cons e_int a_nil)))))) (le_n 6)))) (g_name pu1))
  (s_seq (s_asg (e_callD get0 (a_cons (e_var gt1) a_nil)) (g_name pu2))
  (s_seq (s_asg (e_call (a_cons (e_ixX (i := 0) rget0 (e_var gt2)) (a_cons (e_ixX (i := 1) (rgetS rget0) (e_var gt2)) (a_cons (e_ixX (i := 2) (rgetS (rgetS rget0)) (e_var gt2)) (a_cons (e_ixX (i := 3) (rgetS (rgetS (rgetS rget0))) (e_var gt2)) a_nil))))) (g_name pu3))
  (s_seq (s_asg (e_call (a_cons (e_var gt3) a_nil)) (g_name pu4))
  (s_seq (s_if (t_or (t_of (e_op (o_ne sc_str) (e_numStr (e_call (a_cons (e_var gt2) a_nil))) (e_var gt4))) (t_or (t_of (e_op o_neDt (e_callG rfl (a_cons (e_coeX (Rb := (rUn (rDt K) (rUn (rNum CN) rD0))) coe_l (e_dat dp_str (e_var gt4))) a_nil)) (e_dat (dp_tx (dpa_cons dp_int (dpa_cons dp_int (dpa_cons dp_int (dpa_cons dp_int dpa_nil))))) (e_var gt3)))) (t_of (e_op o_neDt (e_call (a_cons (e_var gt4) a_nil)) (e_dat (dp_tx (dpa_cons dp_int (dpa_cons dp_int (dpa_cons dp_int (dpa_cons dp_int dpa_nil))))) (e_var gt3)))))) (s_ret e_bl) s_nil)
  (s_seq (s_for (i_rng1 e_int) (g_name pu5) (s_post (s_seq (s_asg (e_callD get0 (a_cons (e_var gt4) a_nil)) (g_name pu6))
  (s_if (t_of (e_op (o_ne sc_str) (e_ca c_reprDt (a_cons (e_callG rfl (a_cons (e_coeX (Rb := (rUn (rDt K) (rUn (rNum CN) rD0))) coe_l (e_dat dp_str (e_var gt6))) a_nil)) a_nil)) (e_ca c_reprDt (a_cons (e_call (a_cons (e_var gt6) a_nil)) a_nil)))) (s_ret e_bl) s_nil)) (wk_fg (fg_keep (fg_keep (fg_keep (fg_keep (fg_keep (fg_un (fg_un (fg_keep (fg_keep (fg_keep (fg_keep (fg_keep (fg_keep (fg_keep fg_nil)))))))))))))))))
  (s_seq (s_asg (e_lx (LxD.cons (LxD.cons (LxD.cons (LxD.cons LxD.nil)))) (SN.se (n_lc (i_tup (e_txHom (hom_cons (hom_cons (hom_cons (hom_cons hom_nil)))) (e_var gt3))) (gw_name pu11) t_yes (e_ca c_strI (a_cons (e_var gt11) a_nil))))) (g_lst (gs_cons (g_name pu7) (gs_cons (g_name pu8) (gs_cons (g_name pu9) (gs_cons (g_name pu10) gs_nil)))) rfl))
  (s_seq (s_asg (SN.se (n_lst (hom_cons (hom_cons (hom_cons (hom_cons (hom_cons (hom_cons (hom_cons (hom_cons (hom_cons (hom_cons (hom_cons (hom_cons (hom_cons hom_nil))))))))))))) (a_cons e_str (a_cons e_str (a_cons e_str (a_cons e_str (a_cons (e_op o_addS e_str (e_var gt4)) (a_cons (e_op o_addS (e_var gt4) e_str) (a_cons (e_op o_addS e_str (e_var gt4)) (a_cons (e_op o_addS (e_op o_addS e_str (e_var gt4)) e_str) (a_cons (e_op o_addS (e_var gt7) e_str) (a_cons e_str (a_cons e_str (a_cons e_str (a_cons e_str a_nil))))))))))))) (le_n 13))) (g_name pu12))
  (s_seq (s_asg (SN.se (n_op o_catL (e_var gt12) (SN.se (n_lst (hom_cons (hom_cons (hom_cons (hom_cons (hom_cons (hom_cons (hom_cons (hom_cons (hom_cons (hom_cons (hom_cons (hom_cons hom_nil)))))))))))) (a_cons e_str (a_cons e_str (a_cons e_str (a_cons e_str (a_cons e_str (a_cons e_str (a_cons e_str (a_cons e_str (a_cons e_str (a_cons e_str (a_cons e_str (a_cons e_str a_nil)))))))))))) (le_n 12))))) (g_name pu12))
  (s_seq (s_asg (SN.se (n_op o_catL (e_var gt12) (SN.se (n_lst (hom_cons (hom_cons (hom_cons (hom_cons (hom_cons (hom_cons (hom_cons (hom_cons (hom_cons hom_nil))))))))) (a_cons (e_op o_addS (e_op o_addS (e_op o_addS (e_op o_addS (e_var gt7) e_str) (e_var gt8)) e_str) (e_var gt9)) (a_cons (e_op o_addS (e_op o_addS (e_op o_addS e_str (e_var gt7)) e_str) (e_var gt10)) (a_cons e_str (a_cons e_str (a_cons e_str (a_cons e_str (a_cons e_str (a_cons e_str (a_cons e_str a_nil))))))))) (le_n 9))))) (g_name pu12))
  (s_seq (s_if (t_of (e_op (o_neD (da := (fun (xs : (List Str)) => PyData.list (xs.map PyData.str))) (db := (fun (xs : (List Str)) => PyData.list (xs.map PyData.str))) (dp_ls dp_str) (dp_ls dp_str)) (SN.se (n_lc (i_ls (e_var gt12)) (gw_name pu11) (t_of (e_op (o_ne sc_str) (e_ca c_reprDt (a_cons (e_callG rfl (a_cons (e_coeX (Rb := (rUn (rDt K) (rUn (rNum CN) rD0))) coe_l (e_dat dp_str (e_var gt11))) a_nil)) a_nil)) (e_ca c_reprDt (a_cons (e_call (a_cons (e_var gt11) a_nil)) a_nil)))) (e_var gt11))) (SN.se (n_lst (Ra := rStr) hom_nil a_nil (le_n 0))))) (s_ret e_bl) s_nil)
  (s_seq (s_asg (e_pick get0 (SN.se (n_lst (hom_cons (hom_cons (hom_cons (hom_cons (hom_cons (hom_cons (hom_cons (hom_cons hom_nil)))))))) (a_cons (e_coeX (Rb := (rUn (rDt K) (rUn (rNum CN) rD0))) coe_l (e_dat dp_non e_non)) (a_cons (e_coeX (Rb := (rUn (rDt K) (rUn (rNum CN) rD0))) coe_l (e_dat dp_int e_int)) (a_cons (e_coeX (Rb := (rUn (rDt K) (rUn (rNum CN) rD0))) coe_l (e_dat (dp_tx (dpa_cons dp_str dpa_nil)) (e_tup (a_cons (e_var gt4) a_nil) (le_n 1)))) (a_cons (e_coeX (Rb := (rUn (rDt K) (rUn (rNum CN) rD0))) coe_l (e_dat (dp_ls dp_str) (SN.se (n_lst (hom_cons hom_nil) (a_cons (e_var gt4) a_nil) (le_n 1))))) (a_cons (e_coeX (Rb := (rUn (rDt K) (rUn (rNum CN) rD0))) coe_l (e_d0Dt e_dnew)) (a_cons (e_coeX (Rb := (rUn (rDt K) (rUn (rNum CN) rD0))) coe_r (e_coeX (Rb := (rUn (rNum CN) rD0)) coe_l (e_mkNum1 e_int))) (a_cons (e_coeX (Rb := (rUn (rDt K) (rUn (rNum CN) rD0))) coe_l (e_dat dp_bl e_bl)) (a_cons (e_coeX (Rb := (rUn (rDt K) (rUn (rNum CN) rD0))) coe_l (e_dat (dp_tx dpa_nil) (e_tup a_nil (le_n 0)))) a_nil)))))))) (le_n 8)))) (g_name pu13))
  (s_ret (e_op o_isNDt (e_callG rfl (a_cons (e_var gt13) a_nil)) e_non)))))))))))))) ?_
  exact h
theorem sc_law : FnScope ["_law_script", "_law_spot", "_law_texts", "_law_text_here"] ["_law_script"] (defScope (topS 42)) := ⟨rfl, rfl, rfl, by decide +kernel, rfl, by decide +kernel, by decide +kernel⟩
noncomputable def b_law (ρ : (Unit × (Unit × (Unit × (Unit × Unit))))) : M (Ct Unit Unit Bool) := (M.thn (M.bind (M.bind (M.bind (M.ret ("3" : Str)) fun x293 => M.bind (M.bind (M.ret ("-3/4" : Str)) fun x291 => M.bind (M.bind (M.ret ("1r5" : Str)) fun x289 => M.bind (M.bind (M.ret ("-1r2" : Str)) fun x287 => M.bind (M.bind (M.ret ("2+1r5" : Str)) fun x285 => M.bind (M.bind (M.ret ("2-13r7" : Str)) fun x283 => M.bind (M.bind (M.ret ("-1r5/2" : Str)) fun x281 => M.bind (M.bind (M.ret ("(1+1r5)/2" : Str)) fun x279 => M.bind (M.bind (M.ret ("(-1-1r5)/2" : Str)) fun x277 => M.bind (M.bind (M.ret ("0" : Str)) fun x275 => M.bind (M.ret ()) fun x276 => M.ret (x275, x276)) fun x278 => M.ret (x277, x278)) fun x280 => M.ret (x279, x280)) fun x282 => M.ret (x281, x282)) fun x284 => M.ret (x283, x284)) fun x286 => M.ret (x285, x286)) fun x288 => M.ret (x287, x288)) fun x290 => M.ret (x289, x290)) fun x292 => M.ret (x291, x292)) fun x294 => M.ret (x293, x294)) fun r295 => M.ret [r295.1, r295.2.1, r295.2.2.1, r295.2.2.2.1, r295.2.2.2.2.1, r295.2.2.2.2.2.1, r295.2.2.2.2.2.2.1, r295.2.2.2.2.2.2.2.1, r295.2.2.2.2.2.2.2.2.1, r295.2.2.2.2.2.2.2.2.2.1]) fun x296 => M.ret (.nx (ρ.1, ρ.2.1, x296, ρ.2.2.2))) fun ρ => (M.thn (M.bind (M.bind (M.bind (M.ret ρ.2.2.1) fun l304 => M.need (l304.length ≤ 1000000) (M.lcM l304 fun (a305 : Str) => M.bind ((fun ρ => (M.bind (M.bind (M.bind (M.bind (M.ret ρ.2.2.2.1) fun x297 => M.bind (M.ret ()) fun x298 => M.ret (x297, x298)) fun r299 => M.still (m_Number_read ((), r299))) fun x300 => M.need (Gd 9000 x300) (M.ret (toldT (Nm.t x300) (Nm.p x300) (Nm.r x300) (Nm.b x300)))) fun x301 => M.bind (M.ret ρ.2.2.2.1) fun x302 => M.ret (!decide (x301 = x302)))) (ρ.1, ρ.2.1, ρ.2.2.1, a305, ρ.2.2.2.2)) fun (b306 : Bool) => M.ifb b306 (M.bind ((fun ρ => (M.ret ρ.2.2.2.1)) (ρ.1, ρ.2.1, ρ.2.2.1, a305, ρ.2.2.2.2)) fun (y307 : Str) => M.ret (some y307)) (M.ret none))) fun x308 => M.bind (M.bind (M.ret ()) fun _ => M.ret ([] : (List Str))) fun x309 => M.need (((fun (xs : (List Str)) => PyData.list (xs.map PyData.str)) x308).canLay0 = true ∧ ((fun (xs : (List Str)) => PyData.list (xs.map PyData.str)) x309).canLay0 = true) (M.ret (!PyData.eqv ((fun (xs : (List Str)) => PyData.list (xs.map PyData.str)) x308) ((fun (xs : (List Str)) => PyData.list (xs.map PyData.str)) x309)))) fun x311 => M.ifb x311 (M.bind (M.ret false) fun x310 => M.ret (.rt x310)) (M.ret (.nx ρ))) fun ρ => (M.bind (M.bind (M.bind (M.bind (M.bind (M.bind (M.bind (M.bind (M.ret ("9" : Str)) fun x312 => M.bind (M.ret (1000 : Int)) fun x313 => M.need (MulOk x312 x313) (M.ret (Txt.mul x312 x313))) fun x314 => M.ret (PyData.str x314)) fun x315 => M.ret (Sum.inl x315 : (Sum PyData (Sum Nm Unit)))) fun x316 => M.bind (M.ret ()) fun x317 => M.ret (x316, x317)) fun r318 => M.still (m__law_read r318)) fun x334 => M.bind (M.bind (M.bind (M.bind (M.bind (M.bind (M.ret ("9" : Str)) fun x319 => M.bind (M.ret (1000 : Int)) fun x320 => M.need (MulOk x319 x320) (M.ret (Txt.mul x319 x320))) fun x321 => M.bind (M.ret ()) fun x322 => M.ret (x321, x322)) fun r323 => M.need (Str.length r323.1 ≤ sizeLine) (M.the (PySem.intText? r323.1))) fun x330 => M.bind (M.bind (M.ret (0 : Int)) fun x328 => M.bind (M.bind (M.ret (0 : Int)) fun x326 => M.bind (M.bind (M.ret (1 : Int)) fun x324 => M.bind (M.ret ()) fun x325 => M.ret (x324, x325)) fun x327 => M.ret (x326, x327)) fun x329 => M.ret (x328, x329)) fun x331 => M.ret (x330, x331)) fun x333 => M.ret ((fun (a : (Int × (Int × (Int × (Int × Unit))))) => PyData.tuple ((fun (a : (Int × (Int × (Int × (Int × Unit))))) => PyData.int a.1 :: (fun (a : (Int × (Int × (Int × Unit)))) => PyData.int a.1 :: (fun (a : (Int × (Int × Unit))) => PyData.int a.1 :: (fun (a : (Int × Unit)) => PyData.int a.1 :: (fun (_ : Unit) => ([] : List PyData)) a.2) a.2) a.2) a.2) a)) x333)) fun x335 => M.need ((x334.canLay0 = true ∧ x334.depth ≤ 64) ∧ (x335.canLay0 = true ∧ x335.depth ≤ 64)) (M.ret (PyData.eqv x334 x335))) fun x345 => M.ifb x345 (M.bind (M.bind (M.bind (M.bind (M.bind (M.bind (M.ret ("9" : Str)) fun x336 => M.bind (M.ret (1001 : Int)) fun x337 => M.need (MulOk x336 x337) (M.ret (Txt.mul x336 x337))) fun x338 => M.ret (PyData.str x338)) fun x339 => M.ret (Sum.inl x339 : (Sum PyData (Sum Nm Unit)))) fun x340 => M.bind (M.ret ()) fun x341 => M.ret (x340, x341)) fun r342 => M.still (m__law_read r342)) fun x343 => M.bind (M.ret ()) fun x344 => M.ret (isNoneD x343)) (M.ret false)) fun x346 => M.ret (.rt x346))))
noncomputable def m_law : M Bool := M.fin (b_law ((), ((), ((), ((), ())))))
end
end PF2
namespace PF2
open PF PySem PySem.Spec PyProof.Rows L2 SlX TX SX TL
section
variable {c : Nat} {X : Er → Prop}
theorem k45 : Str.ofString "-" = S [45] := by decide +kernel
theorem k47 : Str.ofString "/" = S [47] := by decide +kernel
theorem k40 : Str.ofString "(" = S [40] := by decide +kernel
theorem k41 : Str.ofString ")" = S [41] := by decide +kernel
theorem k43 : Str.ofString "+" = S [43] := by decide +kernel
theorem k114 : Str.ofString "r" = S [114] := by decide +kernel
theorem k48 : Str.ofString "0" = S [48] := by decide +kernel
theorem kE : Str.ofString "" = S [] := by decide +kernel
theorem kD : Str.ofString "0123456789" = S [48, 49, 50, 51, 52, 53, 54, 55, 56, 57] := by decide +kernel
theorem kPM : Str.ofString "+-" = S [43, 45] := by decide +kernel
theorem in_dig (x : Nat) : inStr (S [x]) (S [48, 49, 50, 51, 52, 53, 54, 55, 56, 57]) = (decide (48 ≤ x) && decide (x ≤ 57)) := by
  unfold inStr
  rw [in_one, Bool.eq_iff_iff]
  simp only [decide_eq_true_eq, Bool.and_eq_true, List.mem_cons, List.not_mem_nil, or_false]
  omega
theorem signs_S (a : List Nat) : PF.signs (S a) = a.map fun x => S [x] := rfl
theorem all_dig (a : List Nat) : (((PF.signs (S a)).map fun s => inStr s (S [48, 49, 50, 51, 52, 53, 54, 55, 56, 57])).all id) = dg a := by
  rw [signs_S, List.map_map, List.all_map]
  unfold dg
  congr 1
  funext x
  exact in_dig x
def pI (a : List Nat) : Option Int := if 1 ≤ (sg a).length ∧ (sg a).length ≤ 1000 ∧ dg (sg a) = true then some (iv a) else none
theorem w_intK {a f : List Nat} {Q : Option Int → Nat → Prop} (ef : sg a = f) (hl : a.length ≤ 3000) (q : Q (pI a) c) : (S f).length ≤ sizeLine ∧ (if 1 ≤ ((S f).length : Int) then (if ((S f).length : Int) ≤ 1000 then (PF.signs (S f)).length ≤ 1000000 ∧
    M.W (M.lcM (PF.signs (S f)) fun a29 => M.bind (M.ret true) fun b30 => M.ifb b30 (M.bind (M.bind (M.ret a29) fun x25 => M.bind (M.ret (S [48, 49, 50, 51, 52, 53, 54, 55, 56, 57])) fun x26 => M.ret (inStr x25 x26)) fun y31 => M.ret (some y31)) (M.ret none)) c
      (fun a_1 d => if a_1.all id = false then Q none d else (S a).length ≤ sizeLine ∧ ∃ a_2, intText? (S a) = some a_2 ∧ Q (some a_2) d) X else Q none c) else Q none c) := by
  have sl := sizeLine_eq
  subst ef
  have l1 := sg_len a
  unfold pI at q
  rw [S_len]
  refine ⟨by omega, ?_⟩
  by_cases h1 : 1 ≤ (sg a).length
  · rw [if_pos (by omega)]
    by_cases h2 : (sg a).length ≤ 1000
    · rw [if_pos (by omega)]
      refine ⟨by rw [signs_S, List.length_map]; omega, M.lcM_map (g := fun s => inStr s (S [48, 49, 50, 51, 52, 53, 54, 55, 56, 57])) (fun a ha Q q => by simp only [M.to_W, M.none_W, M.bind_W, M.ret_W, M.need_W, M.the_W, M.ifb_W, M.anyOf_W, M.still_W, M.roll_W, M.pick_W, M.thn_W, M.thn_nx, M.thn_rt, M.thn_bk, M.thn_ct, M.fin_W, M.fin_rt, M.finN_W, M.finN_rt, M.finN_nx, M.FK_nx, M.FK_ct, M.FK_bk, M.FK_rt, decide_eq_true_eq, if_true, if_false, Bool.false_eq_true, Bool.not_eq_true', decide_eq_false_iff_not, Bool.not_true, Bool.not_false, ite_not]; exact q) ?_⟩
      rw [all_dig]
      by_cases h3 : dg (sg a) = true
      · rw [if_pos ⟨h1, h2, h3⟩] at q
        rw [h3, if_neg (by decide)]
        exact ⟨by rw [S_len]; omega, _, int_of h3 (fun z => by rw [z] at h1; simp at h1) (by omega), q⟩
      · rw [if_neg (fun z => h3 z.2.2)] at q
        rw [if_pos (by simpa using h3)]
        exact q
    · rw [if_neg (fun z => h2 z.2.1)] at q
      rw [if_neg (by omega)]
      exact q
  · rw [if_neg (fun z => h1 z.1)] at q
    rw [if_neg (by omega)]
    exact q
theorem w_int {a : List Nat} {Q : Option Int → Nat → Prop} (hl : a.length ≤ 3000) (q : Q (pI a) c) : M.W (m_integer_in (S a, ())) c Q X := by
  have sl := sizeLine_eq
  have l0 : (S a).length = a.length := S_len a
  simp only [m_integer_in, b_integer_in, M.to_W, M.none_W, M.bind_W, M.ret_W, M.need_W, M.the_W, M.ifb_W, M.anyOf_W, M.still_W, M.roll_W, M.pick_W, M.thn_W, M.thn_nx, M.thn_rt, M.thn_bk, M.thn_ct, M.fin_W, M.fin_rt, M.finN_W, M.finN_rt, M.finN_nx, M.FK_nx, M.FK_ct, M.FK_bk, M.FK_rt, decide_eq_true_eq, if_true, if_false, Bool.false_eq_true, Bool.not_eq_true', decide_eq_false_iff_not, Bool.not_true, Bool.not_false, ite_not, k45, kD]
  refine ⟨by omega, ?_⟩
  by_cases h : a.head? = some 45
  · rw [if_pos (head_cut.mpr h), show (1 : Int) = ((1 : Nat) : Int) by rfl, cut_from, List.drop_one]
    exact ⟨by omega, w_intK (by unfold sg; rw [if_pos h]) hl q⟩
  · rw [if_neg (fun z => h (head_cut.mp z))]
    exact w_intK (by unfold sg; rw [if_neg h]) hl q
theorem w_parts {a : List Nat} {Q : Str × (Str × Unit) → Nat → Prop} (hl : a.length ≤ 3000)
    (q0 : (∀ u v, a = u ++ 43 :: v → False) → (∀ u v, a = u ++ 45 :: v → u = []) → Q (S [], S a, ()) c)
    (q1 : ∀ u v, a = u ++ 43 :: v → 43 ∉ v → Q (S u, S v, ()) c)
    (q2 : ∀ u v, 43 ∉ a → a = u ++ 45 :: v → 45 ∉ v → u ≠ [] → Q (S u, S (45 :: v), ()) c) : M.W (m_parts_in (S a, ())) c Q X := by
  have sl := sizeLine_eq
  have l0 : (S a).length = a.length := S_len a
  simp only [m_parts_in, b_parts_in, M.to_W, M.none_W, M.bind_W, M.ret_W, M.need_W, M.the_W, M.ifb_W, M.anyOf_W, M.still_W, M.roll_W, M.pick_W, M.thn_W, M.thn_nx, M.thn_rt, M.thn_bk, M.thn_ct, M.fin_W, M.fin_rt, M.finN_W, M.finN_rt, M.finN_nx, M.FK_nx, M.FK_ct, M.FK_bk, M.FK_rt, decide_eq_true_eq, if_true, if_false, Bool.false_eq_true, Bool.not_eq_true', decide_eq_false_iff_not, Bool.not_true, Bool.not_false, ite_not, k45, k43, kE]
  rcases rfind_one a 43 with ⟨h1, h2⟩ | ⟨u, v, rfl, h1, h2⟩
  · rw [h2, if_pos (by decide)]
    rcases rfind_one a 45 with ⟨g1, g2⟩ | ⟨u, v, rfl, g1, g2⟩
    · rw [g2, if_neg (by decide)]
      exact q0 (fun u v e => h1 (by rw [e]; simp)) (fun u v e => absurd (by rw [e]; simp) g1)
    · rw [g2]
      cases u with
      | nil =>
        rw [if_neg (by decide)]
        exact q0 (fun u' v' e => h1 (by rw [e]; simp)) (fun u' v' e => by
          cases u' with
          | nil => rfl
          | cons x u' =>
            have e : 45 :: v = x :: (u' ++ 45 :: v') := e
            injection e with _ e
            exact absurd (by rw [e]; simp) g1)
      | cons x u =>
        rw [if_pos (by simp)]
        refine ⟨by omega, by omega, ?_⟩
        rw [cut_to, cut_from]
        have e1 : ((x :: u) ++ 45 :: v).take (x :: u).length = x :: u := by simp
        have e2 : ((x :: u) ++ 45 :: v).drop (x :: u).length = 45 :: v := by simp
        rw [e1, e2]
        exact q2 _ _ h1 rfl g1 (List.cons_ne_nil _ _)
  · rw [h2, if_neg (by omega)]
    refine ⟨by omega, by omega, ?_⟩
    rw [show ((u.length : Int) + 1) = ((u.length + 1 : Nat) : Int) by omega, cut_to, cut_from]
    have e1 : (u ++ 43 :: v).take u.length = u := by simp
    have e2 : (u ++ 43 :: v).drop (u.length + 1) = v := by simp
    rw [e1, e2]
    exact q1 u v rfl h1
theorem part_none {x : List Nat} {b : Nat} (h : b ∉ x) : Txt.partition (S x) (S [b]) = (S x, S [], S []) := partition_none (List.cons_ne_nil _ _) (par_head_none h)
theorem part_some {y u : List Nat} {b : Nat} (h : b ∉ y) : Txt.partition (S (y ++ b :: u)) (S [b]) = (S y, S [b], S u) := partition_some (List.cons_ne_nil _ _) (par_head u h)
theorem first_of {x : List Nat} {b : Nat} (h : b ∈ x) : ∃ y u, x = y ++ b :: u ∧ b ∉ y := by
  induction x with
  | nil => cases h
  | cons a x ih =>
    by_cases e : a = b
    · exact ⟨[], x, by rw [e]; rfl, List.not_mem_nil⟩
    · obtain ⟨y, u, e1, e2⟩ := ih ((List.mem_cons.mp h).resolve_left (fun z => e z.symm))
      exact ⟨a :: y, u, by rw [e1]; rfl, fun m => (List.mem_cons.mp m).elim (fun z => e z.symm) e2⟩
theorem first_uniq {b : Nat} : ∀ {p q p' q' : List Nat}, p ++ b :: q = p' ++ b :: q' → b ∉ p → b ∉ p' → p = p' ∧ q = q'
  | [], q, [], q', h, _, _ => by injection h with _ h; exact ⟨rfl, h⟩
  | [], q, x :: p', q', h, _, h2 => by
    have h : b :: q = x :: (p' ++ b :: q') := h
    injection h with h _
    exact absurd (by rw [h]; exact List.mem_cons_self ..) h2
  | x :: p, q, [], q', h, h1, _ => by
    have h : x :: (p ++ b :: q) = b :: q' := h
    injection h with h _
    exact absurd (by rw [h]; exact List.mem_cons_self ..) h1
  | x :: p, q, y :: p', q', h, h1, h2 => by
    have h : x :: (p ++ b :: q) = y :: (p' ++ b :: q') := h
    injection h with e h
    obtain ⟨r1, r2⟩ := first_uniq h (fun m => h1 (List.mem_cons_of_mem _ m)) (fun m => h2 (List.mem_cons_of_mem _ m))
    exact ⟨by rw [e, r1], r2⟩
def PartsR (a f l : List Nat) : Prop := ((∀ u v, a = u ++ 43 :: v → False) ∧ (∀ u v, a = u ++ 45 :: v → u = []) ∧ f = [] ∧ l = a) ∨ (a = f ++ 43 :: l ∧ 43 ∉ l) ∨ ∃ v, 43 ∉ a ∧ a = f ++ 45 :: v ∧ 45 ∉ v ∧ f ≠ [] ∧ l = 45 :: v
theorem w_partsR {a : List Nat} {Q : Str × (Str × Unit) → Nat → Prop} (hl : a.length ≤ 3000) (q : ∀ f l, PartsR a f l → Q (S f, S l, ()) c) : M.W (m_parts_in (S a, ())) c Q X :=
  w_parts hl (fun h1 h2 => q [] a (.inl ⟨h1, h2, rfl, rfl⟩)) (fun u v e h => q u v (.inr (.inl ⟨e, h⟩))) fun u v h1 e h2 h3 => q u _ (.inr (.inr ⟨v, h1, e, h2, h3, rfl⟩))
def UnB (y z : List Nat) : Prop := (z = y ∧ ¬ (y.head? = some 40 ∧ y.getLast? = some 41)) ∨ y = 40 :: (z ++ [41])
theorem unb_of (y : List Nat) : ∃ z, UnB y z := by
  by_cases h : y.head? = some 40 ∧ y.getLast? = some 41
  · obtain ⟨h1, h2⟩ := h
    cases y with
    | nil => cases h1
    | cons x y =>
      obtain rfl : x = 40 := by simpa using h1
      rcases List.eq_nil_or_concat y with rfl | ⟨m, d, rfl⟩
      · cases h2
      · rw [List.concat_eq_append] at h2
        have e : (40 :: (m ++ [d])).getLast? = some d := by rw [← List.cons_append, List.getLast?_concat]
        rw [e] at h2
        cases h2
        exact ⟨m, .inr (by rw [List.concat_eq_append])⟩
  · exact ⟨y, .inl ⟨rfl, h⟩⟩
structure NinR (x : List Nat) (ob ot op or : Option Int) (lt : Bool) : Prop where
  ex : ∃ y z, ((47 ∉ x ∧ y = x ∧ ob = some 1) ∨ ∃ u, x = y ++ 47 :: u ∧ 47 ∉ y ∧ ob = pI u) ∧ UnB y z ∧
    ((lt = false ∧ 114 ∉ z ∧ ot = (if z = [] then some 0 else pI z) ∧ op = some 0 ∧ or = some 0) ∨ (lt = true ∧ ∃ ah bh f l, z = ah ++ 114 :: bh ∧ 114 ∉ ah ∧ or = pI bh ∧ PartsR ah f l ∧ ot = (if f = [] then some 0 else pI f) ∧ op = pI l))
def finN (ob ot op or : Option Int) (lt : Bool) : Option Nm := match ob, ot, op with
  | some b, some t, some p => if b = 0 then none else if lt = true ∧ rootO or = false then none else some (mkNm t p (or.getD 0) b)
  | _, _, _ => none
theorem pI_zero : pI [48] = some 0 := by decide +kernel
theorem pI_bits {a : List Nat} {i : Int} (h : pI a = some i) : Bd 4000 i := by
  unfold pI at h
  split at h
  · next z =>
    cases h
    exact iv_bits z.2.2 z.2.1 (by decide)
  · cases h
theorem nin_finT {ob ot op or : Option Int} {Q : Option Nm → Nat → Prop} (hb : ∀ i, ob = some i → Bd 9000 i) (q : Q (finN ob ot op or true) c) :
    if ob.isNone = true then Q none c else ∃ a_2, id ob = some a_2 ∧ if a_2 = 0 then Q none c else if ot.isNone = true then Q none c else if op.isNone = true then Q none c else if rootO or = false then Q none c else
      ∃ t, id ot = some t ∧ ∃ p, id op = some p ∧ ∃ r, id or = some r ∧ ∃ b, id ob = some b ∧ (b ≠ 0 ∧ Bd 9000 b) ∧ Q (some (mkNm t p r b)) c := by
  unfold finN at q
  cases ob with
  | none => exact q
  | some b =>
    rw [if_neg (by simp)]
    refine ⟨b, rfl, ?_⟩
    by_cases hb0 : b = 0
    · rw [if_pos hb0]
      subst hb0
      cases ot with
      | none => exact q
      | some t => cases op with
        | none => exact q
        | some p => exact q
    · rw [if_neg hb0]
      cases ot with
      | none => exact q
      | some t =>
        rw [if_neg (by simp)]
        cases op with
        | none => exact q
        | some p =>
          rw [if_neg (by simp)]
          dsimp only at q
          rw [if_neg hb0] at q
          cases hr : rootO or with
          | false => rw [if_pos rfl]; rw [if_pos ⟨rfl, hr⟩] at q; exact q
          | true =>
            rw [if_neg (by simp)]
            rw [if_neg (by rw [hr]; simp)] at q
            cases or with
            | none => cases hr
            | some r => exact ⟨t, rfl, p, rfl, r, rfl, b, rfl, ⟨hb0, hb b rfl⟩, q⟩
theorem nin_finF {ob ot op or : Option Int} {Q : Option Nm → Nat → Prop} (hb : ∀ i, ob = some i → Bd 9000 i) (q : Q (finN ob ot op or false) c) (hor : or = some 0) :
    if ob.isNone = true then Q none c else ∃ a_2, id ob = some a_2 ∧ if a_2 = 0 then Q none c else if ot.isNone = true then Q none c else if op.isNone = true then Q none c else
      ∃ t, id ot = some t ∧ ∃ p, id op = some p ∧ ∃ r, id or = some r ∧ ∃ b, id ob = some b ∧ (b ≠ 0 ∧ Bd 9000 b) ∧ Q (some (mkNm t p r b)) c := by
  unfold finN at q
  cases ob with
  | none => exact q
  | some b =>
    rw [if_neg (by simp)]
    refine ⟨b, rfl, ?_⟩
    by_cases hb0 : b = 0
    · rw [if_pos hb0]
      subst hb0
      cases ot with
      | none => exact q
      | some t => cases op with
        | none => exact q
        | some p => exact q
    · rw [if_neg hb0]
      cases ot with
      | none => exact q
      | some t =>
        rw [if_neg (by simp)]
        cases op with
        | none => exact q
        | some p =>
          rw [if_neg (by simp)]
          dsimp only at q
          rw [if_neg hb0, if_neg (by simp), hor] at q
          rw [hor]
          exact ⟨t, rfl, p, rfl, 0, rfl, b, rfl, ⟨hb0, hb b rfl⟩, q⟩
theorem bd1 : ∀ i, (some 1 : Option Int) = some i → Bd 9000 i := fun i h => by
  cases h
  exact bd_sm (by decide) (by decide)
theorem bdI {a : List Nat} : ∀ i, pI a = some i → Bd 9000 i := fun i h => (pI_bits h).mono (by decide)
theorem parts_len {a f l : List Nat} (h : PartsR a f l) : f.length ≤ a.length ∧ l.length ≤ a.length := by
  rcases h with ⟨_, _, rfl, rfl⟩ | ⟨rfl, _⟩ | ⟨v, _, rfl, _, _, rfl⟩
  · simp
  · simp only [List.length_append, List.length_cons]; omega
  · simp only [List.length_append, List.length_cons]; omega
theorem unb_cases (y : List Nat) : (∃ z, UnB y z ∧ z.length ≤ y.length ∧ (cutS (S y) none (some 1) = S [40]) = True ∧ (cutS (S y) (some (-1)) none = S [41]) = True ∧ cutS (S y) (some 1) (some (-1)) = S z) ∨
    (UnB y y ∧ (cutS (S y) none (some 1) = S [40]) = False) ∨ (UnB y y ∧ (cutS (S y) none (some 1) = S [40]) = True ∧ (cutS (S y) (some (-1)) none = S [41]) = False) := by
  by_cases h : y.head? = some 40 ∧ y.getLast? = some 41
  · obtain ⟨z, hz⟩ := unb_of y
    rcases hz with ⟨_, n⟩ | e
    · exact absurd h n
    · refine .inl ⟨z, .inr e, by rw [e]; simp; omega, eq_true (head_cut.mpr h.1), eq_true (last_cut.mpr h.2), by rw [e]; exact inner_cut⟩
  · by_cases g : y.head? = some 40
    · exact .inr (.inr ⟨.inl ⟨rfl, h⟩, eq_true (head_cut.mpr g), eq_false fun z => h ⟨g, last_cut.mp z⟩⟩)
    · exact .inr (.inl ⟨.inl ⟨rfl, h⟩, eq_false fun z => g (head_cut.mp z)⟩)
theorem w_nin {x : List Nat} {Q : Option Nm → Nat → Prop} (hl : x.length ≤ 3000) (q : ∀ ob ot op or lt, NinR x ob ot op or lt → Q (finN ob ot op or lt) c) : M.W (m_number_in (S x, ())) c Q X := by
  have sl := sizeLine_eq
  have L : ∀ a : List Nat, (S a).length = a.length := S_len
  have n47 : ¬ S [47] = S [] := fun z => by have := S_inj z; cases this
  have n114 : ¬ S [114] = S [] := fun z => by have := S_inj z; cases this
  have one : ∀ c : Nat, ((S [c]).length == 0) = false := fun c => by rw [S_len]; rfl
  by_cases h47 : 47 ∈ x
  · obtain ⟨y, u, e8, hy⟩ := first_of h47
    subst e8
    have e1 := part_some (u := u) hy
    have hl2 : y.length ≤ 3000 ∧ u.length ≤ 3000 := by
      rw [List.length_append, List.length_cons] at hl
      omega
    rcases unb_cases y with ⟨z, hz, lz, hA, hB, hC⟩ | ⟨hz, hA⟩ | ⟨hz, hA, hB⟩
    · by_cases h114 : 114 ∈ z
      · obtain ⟨ah, bh, e9, hah⟩ := first_of h114
        subst e9
        have e3 := part_some (u := bh) hah
        have l3 : ah.length ≤ 3000 ∧ bh.length ≤ 3000 := by
          simp only [List.length_append, List.length_cons] at *
          omega
        simp only [m_number_in, b_number_in, M.to_W, M.none_W, M.bind_W, M.ret_W, M.need_W, M.the_W, M.ifb_W, M.anyOf_W, M.still_W, M.roll_W, M.pick_W, M.thn_W, M.thn_nx, M.thn_rt, M.thn_bk, M.thn_ct, M.fin_W, M.fin_rt, M.finN_W, M.finN_rt, M.finN_nx, M.FK_nx, M.FK_ct, M.FK_bk, M.FK_rt, decide_eq_true_eq, if_true, if_false, Bool.false_eq_true, Bool.not_eq_true', decide_eq_false_iff_not, Bool.not_true, Bool.not_false, ite_not, k45, k43, kE, k47, k40, k41, k114, k48, e1, if_neg n47, if_neg n114, hA, hB, hC, e3, if_true, if_false]
        refine ⟨⟨one _, by rw [L]; omega⟩, ?_⟩
        refine w_int (by omega) ?_
        refine ⟨by rw [L]; omega, by rw [L]; omega, by rw [L]; omega, ⟨one _, by rw [L]; omega⟩, ?_⟩
        refine w_partsR (by omega) fun f l hp => ?_
        have lp := parts_len hp
        by_cases hf : f = []
        · subst hf
          refine (if_pos rfl).mpr (w_int (by omega) (w_int (by omega) (nin_finT bdI (q _ _ _ _ _ ⟨_, _, (.inr ⟨_, rfl, hy, rfl⟩), hz, .inr ⟨rfl, _, _, _, _, rfl, hah, rfl, hp, (if_pos rfl).symm, rfl⟩⟩))))
        · refine (if_neg (fun z => hf (S_inj z))).mpr (w_int (by omega) (w_int (by omega) (w_int (by omega) (nin_finT bdI (q _ _ _ _ _ ⟨_, _, (.inr ⟨_, rfl, hy, rfl⟩), hz, .inr ⟨rfl, _, _, _, _, rfl, hah, rfl, hp, (if_neg hf).symm, rfl⟩⟩)))))
      · have e3 := part_none h114
        simp only [m_number_in, b_number_in, M.to_W, M.none_W, M.bind_W, M.ret_W, M.need_W, M.the_W, M.ifb_W, M.anyOf_W, M.still_W, M.roll_W, M.pick_W, M.thn_W, M.thn_nx, M.thn_rt, M.thn_bk, M.thn_ct, M.fin_W, M.fin_rt, M.finN_W, M.finN_rt, M.finN_nx, M.FK_nx, M.FK_ct, M.FK_bk, M.FK_rt, decide_eq_true_eq, if_true, if_false, Bool.false_eq_true, Bool.not_eq_true', decide_eq_false_iff_not, Bool.not_true, Bool.not_false, ite_not, k45, k43, kE, k47, k40, k41, k114, k48, e1, if_neg n47, hA, hB, hC, e3, if_true, if_false]
        refine ⟨⟨one _, by rw [L]; omega⟩, ?_⟩
        refine w_int (by omega) ?_
        refine ⟨by rw [L]; omega, by rw [L]; omega, by rw [L]; omega, ⟨one _, by rw [L]; omega⟩, ?_⟩
        by_cases hf : z = []
        · subst hf
          refine (if_pos rfl).mpr (w_int (by decide) (nin_finF bdI (q _ _ _ _ _ ⟨_, _, (.inr ⟨_, rfl, hy, rfl⟩), hz, .inl ⟨rfl, h114, (if_pos rfl).symm, pI_zero, rfl⟩⟩) rfl))
        · refine (if_neg (fun z => hf (S_inj z))).mpr (w_int (by omega) (w_int (by decide) (nin_finF bdI (q _ _ _ _ _ ⟨_, _, (.inr ⟨_, rfl, hy, rfl⟩), hz, .inl ⟨rfl, h114, (if_neg hf).symm, pI_zero, rfl⟩⟩) rfl)))
    · by_cases h114 : 114 ∈ y
      · obtain ⟨ah, bh, e9, hah⟩ := first_of h114
        subst e9
        have e3 := part_some (u := bh) hah
        have l3 : ah.length ≤ 3000 ∧ bh.length ≤ 3000 := by
          simp only [List.length_append, List.length_cons] at *
          omega
        simp only [m_number_in, b_number_in, M.to_W, M.none_W, M.bind_W, M.ret_W, M.need_W, M.the_W, M.ifb_W, M.anyOf_W, M.still_W, M.roll_W, M.pick_W, M.thn_W, M.thn_nx, M.thn_rt, M.thn_bk, M.thn_ct, M.fin_W, M.fin_rt, M.finN_W, M.finN_rt, M.finN_nx, M.FK_nx, M.FK_ct, M.FK_bk, M.FK_rt, decide_eq_true_eq, if_true, if_false, Bool.false_eq_true, Bool.not_eq_true', decide_eq_false_iff_not, Bool.not_true, Bool.not_false, ite_not, k45, k43, kE, k47, k40, k41, k114, k48, e1, if_neg n47, if_neg n114, hA, e3, if_true, if_false]
        refine ⟨⟨one _, by rw [L]; omega⟩, ?_⟩
        refine w_int (by omega) ?_
        refine ⟨by rw [L]; omega, ⟨one _, by rw [L]; omega⟩, ?_⟩
        refine w_partsR (by omega) fun f l hp => ?_
        have lp := parts_len hp
        by_cases hf : f = []
        · subst hf
          refine (if_pos rfl).mpr (w_int (by omega) (w_int (by omega) (nin_finT bdI (q _ _ _ _ _ ⟨_, _, (.inr ⟨_, rfl, hy, rfl⟩), hz, .inr ⟨rfl, _, _, _, _, rfl, hah, rfl, hp, (if_pos rfl).symm, rfl⟩⟩))))
        · refine (if_neg (fun z => hf (S_inj z))).mpr (w_int (by omega) (w_int (by omega) (w_int (by omega) (nin_finT bdI (q _ _ _ _ _ ⟨_, _, (.inr ⟨_, rfl, hy, rfl⟩), hz, .inr ⟨rfl, _, _, _, _, rfl, hah, rfl, hp, (if_neg hf).symm, rfl⟩⟩)))))
      · have e3 := part_none h114
        simp only [m_number_in, b_number_in, M.to_W, M.none_W, M.bind_W, M.ret_W, M.need_W, M.the_W, M.ifb_W, M.anyOf_W, M.still_W, M.roll_W, M.pick_W, M.thn_W, M.thn_nx, M.thn_rt, M.thn_bk, M.thn_ct, M.fin_W, M.fin_rt, M.finN_W, M.finN_rt, M.finN_nx, M.FK_nx, M.FK_ct, M.FK_bk, M.FK_rt, decide_eq_true_eq, if_true, if_false, Bool.false_eq_true, Bool.not_eq_true', decide_eq_false_iff_not, Bool.not_true, Bool.not_false, ite_not, k45, k43, kE, k47, k40, k41, k114, k48, e1, if_neg n47, hA, e3, if_true, if_false]
        refine ⟨⟨one _, by rw [L]; omega⟩, ?_⟩
        refine w_int (by omega) ?_
        refine ⟨by rw [L]; omega, ⟨one _, by rw [L]; omega⟩, ?_⟩
        by_cases hf : y = []
        · subst hf
          refine (if_pos rfl).mpr (w_int (by decide) (nin_finF bdI (q _ _ _ _ _ ⟨_, _, (.inr ⟨_, rfl, hy, rfl⟩), hz, .inl ⟨rfl, h114, (if_pos rfl).symm, pI_zero, rfl⟩⟩) rfl))
        · refine (if_neg (fun z => hf (S_inj z))).mpr (w_int (by omega) (w_int (by decide) (nin_finF bdI (q _ _ _ _ _ ⟨_, _, (.inr ⟨_, rfl, hy, rfl⟩), hz, .inl ⟨rfl, h114, (if_neg hf).symm, pI_zero, rfl⟩⟩) rfl)))
    · by_cases h114 : 114 ∈ y
      · obtain ⟨ah, bh, e9, hah⟩ := first_of h114
        subst e9
        have e3 := part_some (u := bh) hah
        have l3 : ah.length ≤ 3000 ∧ bh.length ≤ 3000 := by
          simp only [List.length_append, List.length_cons] at *
          omega
        simp only [m_number_in, b_number_in, M.to_W, M.none_W, M.bind_W, M.ret_W, M.need_W, M.the_W, M.ifb_W, M.anyOf_W, M.still_W, M.roll_W, M.pick_W, M.thn_W, M.thn_nx, M.thn_rt, M.thn_bk, M.thn_ct, M.fin_W, M.fin_rt, M.finN_W, M.finN_rt, M.finN_nx, M.FK_nx, M.FK_ct, M.FK_bk, M.FK_rt, decide_eq_true_eq, if_true, if_false, Bool.false_eq_true, Bool.not_eq_true', decide_eq_false_iff_not, Bool.not_true, Bool.not_false, ite_not, k45, k43, kE, k47, k40, k41, k114, k48, e1, if_neg n47, if_neg n114, hA, hB, e3, if_true, if_false]
        refine ⟨⟨one _, by rw [L]; omega⟩, ?_⟩
        refine w_int (by omega) ?_
        refine ⟨by rw [L]; omega, by rw [L]; omega, ⟨one _, by rw [L]; omega⟩, ?_⟩
        refine w_partsR (by omega) fun f l hp => ?_
        have lp := parts_len hp
        by_cases hf : f = []
        · subst hf
          refine (if_pos rfl).mpr (w_int (by omega) (w_int (by omega) (nin_finT bdI (q _ _ _ _ _ ⟨_, _, (.inr ⟨_, rfl, hy, rfl⟩), hz, .inr ⟨rfl, _, _, _, _, rfl, hah, rfl, hp, (if_pos rfl).symm, rfl⟩⟩))))
        · refine (if_neg (fun z => hf (S_inj z))).mpr (w_int (by omega) (w_int (by omega) (w_int (by omega) (nin_finT bdI (q _ _ _ _ _ ⟨_, _, (.inr ⟨_, rfl, hy, rfl⟩), hz, .inr ⟨rfl, _, _, _, _, rfl, hah, rfl, hp, (if_neg hf).symm, rfl⟩⟩)))))
      · have e3 := part_none h114
        simp only [m_number_in, b_number_in, M.to_W, M.none_W, M.bind_W, M.ret_W, M.need_W, M.the_W, M.ifb_W, M.anyOf_W, M.still_W, M.roll_W, M.pick_W, M.thn_W, M.thn_nx, M.thn_rt, M.thn_bk, M.thn_ct, M.fin_W, M.fin_rt, M.finN_W, M.finN_rt, M.finN_nx, M.FK_nx, M.FK_ct, M.FK_bk, M.FK_rt, decide_eq_true_eq, if_true, if_false, Bool.false_eq_true, Bool.not_eq_true', decide_eq_false_iff_not, Bool.not_true, Bool.not_false, ite_not, k45, k43, kE, k47, k40, k41, k114, k48, e1, if_neg n47, hA, hB, e3, if_true, if_false]
        refine ⟨⟨one _, by rw [L]; omega⟩, ?_⟩
        refine w_int (by omega) ?_
        refine ⟨by rw [L]; omega, by rw [L]; omega, ⟨one _, by rw [L]; omega⟩, ?_⟩
        by_cases hf : y = []
        · subst hf
          refine (if_pos rfl).mpr (w_int (by decide) (nin_finF bdI (q _ _ _ _ _ ⟨_, _, (.inr ⟨_, rfl, hy, rfl⟩), hz, .inl ⟨rfl, h114, (if_pos rfl).symm, pI_zero, rfl⟩⟩) rfl))
        · refine (if_neg (fun z => hf (S_inj z))).mpr (w_int (by omega) (w_int (by decide) (nin_finF bdI (q _ _ _ _ _ ⟨_, _, (.inr ⟨_, rfl, hy, rfl⟩), hz, .inl ⟨rfl, h114, (if_neg hf).symm, pI_zero, rfl⟩⟩) rfl)))
  · have e1 := part_none h47
    have hl2 : x.length ≤ 3000 := hl
    rcases unb_cases x with ⟨z, hz, lz, hA, hB, hC⟩ | ⟨hz, hA⟩ | ⟨hz, hA, hB⟩
    · by_cases h114 : 114 ∈ z
      · obtain ⟨ah, bh, e9, hah⟩ := first_of h114
        subst e9
        have e3 := part_some (u := bh) hah
        have l3 : ah.length ≤ 3000 ∧ bh.length ≤ 3000 := by
          simp only [List.length_append, List.length_cons] at *
          omega
        simp only [m_number_in, b_number_in, M.to_W, M.none_W, M.bind_W, M.ret_W, M.need_W, M.the_W, M.ifb_W, M.anyOf_W, M.still_W, M.roll_W, M.pick_W, M.thn_W, M.thn_nx, M.thn_rt, M.thn_bk, M.thn_ct, M.fin_W, M.fin_rt, M.finN_W, M.finN_rt, M.finN_nx, M.FK_nx, M.FK_ct, M.FK_bk, M.FK_rt, decide_eq_true_eq, if_true, if_false, Bool.false_eq_true, Bool.not_eq_true', decide_eq_false_iff_not, Bool.not_true, Bool.not_false, ite_not, k45, k43, kE, k47, k40, k41, k114, k48, e1, if_neg n47, if_neg n114, hA, hB, hC, e3, if_true, if_false]
        refine ⟨⟨one _, by rw [L]; omega⟩, ?_⟩
        refine ⟨by rw [L]; omega, by rw [L]; omega, by rw [L]; omega, ⟨one _, by rw [L]; omega⟩, ?_⟩
        refine w_partsR (by omega) fun f l hp => ?_
        have lp := parts_len hp
        by_cases hf : f = []
        · subst hf
          refine (if_pos rfl).mpr (w_int (by omega) (w_int (by omega) (nin_finT bd1 (q _ _ _ _ _ ⟨_, _, (.inl ⟨h47, rfl, rfl⟩), hz, .inr ⟨rfl, _, _, _, _, rfl, hah, rfl, hp, (if_pos rfl).symm, rfl⟩⟩))))
        · refine (if_neg (fun z => hf (S_inj z))).mpr (w_int (by omega) (w_int (by omega) (w_int (by omega) (nin_finT bd1 (q _ _ _ _ _ ⟨_, _, (.inl ⟨h47, rfl, rfl⟩), hz, .inr ⟨rfl, _, _, _, _, rfl, hah, rfl, hp, (if_neg hf).symm, rfl⟩⟩)))))
      · have e3 := part_none h114
        simp only [m_number_in, b_number_in, M.to_W, M.none_W, M.bind_W, M.ret_W, M.need_W, M.the_W, M.ifb_W, M.anyOf_W, M.still_W, M.roll_W, M.pick_W, M.thn_W, M.thn_nx, M.thn_rt, M.thn_bk, M.thn_ct, M.fin_W, M.fin_rt, M.finN_W, M.finN_rt, M.finN_nx, M.FK_nx, M.FK_ct, M.FK_bk, M.FK_rt, decide_eq_true_eq, if_true, if_false, Bool.false_eq_true, Bool.not_eq_true', decide_eq_false_iff_not, Bool.not_true, Bool.not_false, ite_not, k45, k43, kE, k47, k40, k41, k114, k48, e1, if_neg n47, hA, hB, hC, e3, if_true, if_false]
        refine ⟨⟨one _, by rw [L]; omega⟩, ?_⟩
        refine ⟨by rw [L]; omega, by rw [L]; omega, by rw [L]; omega, ⟨one _, by rw [L]; omega⟩, ?_⟩
        by_cases hf : z = []
        · subst hf
          refine (if_pos rfl).mpr (w_int (by decide) (nin_finF bd1 (q _ _ _ _ _ ⟨_, _, (.inl ⟨h47, rfl, rfl⟩), hz, .inl ⟨rfl, h114, (if_pos rfl).symm, pI_zero, rfl⟩⟩) rfl))
        · refine (if_neg (fun z => hf (S_inj z))).mpr (w_int (by omega) (w_int (by decide) (nin_finF bd1 (q _ _ _ _ _ ⟨_, _, (.inl ⟨h47, rfl, rfl⟩), hz, .inl ⟨rfl, h114, (if_neg hf).symm, pI_zero, rfl⟩⟩) rfl)))
    · by_cases h114 : 114 ∈ x
      · obtain ⟨ah, bh, e9, hah⟩ := first_of h114
        subst e9
        have e3 := part_some (u := bh) hah
        have l3 : ah.length ≤ 3000 ∧ bh.length ≤ 3000 := by
          simp only [List.length_append, List.length_cons] at *
          omega
        simp only [m_number_in, b_number_in, M.to_W, M.none_W, M.bind_W, M.ret_W, M.need_W, M.the_W, M.ifb_W, M.anyOf_W, M.still_W, M.roll_W, M.pick_W, M.thn_W, M.thn_nx, M.thn_rt, M.thn_bk, M.thn_ct, M.fin_W, M.fin_rt, M.finN_W, M.finN_rt, M.finN_nx, M.FK_nx, M.FK_ct, M.FK_bk, M.FK_rt, decide_eq_true_eq, if_true, if_false, Bool.false_eq_true, Bool.not_eq_true', decide_eq_false_iff_not, Bool.not_true, Bool.not_false, ite_not, k45, k43, kE, k47, k40, k41, k114, k48, e1, if_neg n47, if_neg n114, hA, e3, if_true, if_false]
        refine ⟨⟨one _, by rw [L]; omega⟩, ?_⟩
        refine ⟨by rw [L]; omega, ⟨one _, by rw [L]; omega⟩, ?_⟩
        refine w_partsR (by omega) fun f l hp => ?_
        have lp := parts_len hp
        by_cases hf : f = []
        · subst hf
          refine (if_pos rfl).mpr (w_int (by omega) (w_int (by omega) (nin_finT bd1 (q _ _ _ _ _ ⟨_, _, (.inl ⟨h47, rfl, rfl⟩), hz, .inr ⟨rfl, _, _, _, _, rfl, hah, rfl, hp, (if_pos rfl).symm, rfl⟩⟩))))
        · refine (if_neg (fun z => hf (S_inj z))).mpr (w_int (by omega) (w_int (by omega) (w_int (by omega) (nin_finT bd1 (q _ _ _ _ _ ⟨_, _, (.inl ⟨h47, rfl, rfl⟩), hz, .inr ⟨rfl, _, _, _, _, rfl, hah, rfl, hp, (if_neg hf).symm, rfl⟩⟩)))))
      · have e3 := part_none h114
        simp only [m_number_in, b_number_in, M.to_W, M.none_W, M.bind_W, M.ret_W, M.need_W, M.the_W, M.ifb_W, M.anyOf_W, M.still_W, M.roll_W, M.pick_W, M.thn_W, M.thn_nx, M.thn_rt, M.thn_bk, M.thn_ct, M.fin_W, M.fin_rt, M.finN_W, M.finN_rt, M.finN_nx, M.FK_nx, M.FK_ct, M.FK_bk, M.FK_rt, decide_eq_true_eq, if_true, if_false, Bool.false_eq_true, Bool.not_eq_true', decide_eq_false_iff_not, Bool.not_true, Bool.not_false, ite_not, k45, k43, kE, k47, k40, k41, k114, k48, e1, if_neg n47, hA, e3, if_true, if_false]
        refine ⟨⟨one _, by rw [L]; omega⟩, ?_⟩
        refine ⟨by rw [L]; omega, ⟨one _, by rw [L]; omega⟩, ?_⟩
        by_cases hf : x = []
        · subst hf
          refine (if_pos rfl).mpr (w_int (by decide) (nin_finF bd1 (q _ _ _ _ _ ⟨_, _, (.inl ⟨h47, rfl, rfl⟩), hz, .inl ⟨rfl, h114, (if_pos rfl).symm, pI_zero, rfl⟩⟩) rfl))
        · refine (if_neg (fun z => hf (S_inj z))).mpr (w_int (by omega) (w_int (by decide) (nin_finF bd1 (q _ _ _ _ _ ⟨_, _, (.inl ⟨h47, rfl, rfl⟩), hz, .inl ⟨rfl, h114, (if_neg hf).symm, pI_zero, rfl⟩⟩) rfl)))
    · by_cases h114 : 114 ∈ x
      · obtain ⟨ah, bh, e9, hah⟩ := first_of h114
        subst e9
        have e3 := part_some (u := bh) hah
        have l3 : ah.length ≤ 3000 ∧ bh.length ≤ 3000 := by
          simp only [List.length_append, List.length_cons] at *
          omega
        simp only [m_number_in, b_number_in, M.to_W, M.none_W, M.bind_W, M.ret_W, M.need_W, M.the_W, M.ifb_W, M.anyOf_W, M.still_W, M.roll_W, M.pick_W, M.thn_W, M.thn_nx, M.thn_rt, M.thn_bk, M.thn_ct, M.fin_W, M.fin_rt, M.finN_W, M.finN_rt, M.finN_nx, M.FK_nx, M.FK_ct, M.FK_bk, M.FK_rt, decide_eq_true_eq, if_true, if_false, Bool.false_eq_true, Bool.not_eq_true', decide_eq_false_iff_not, Bool.not_true, Bool.not_false, ite_not, k45, k43, kE, k47, k40, k41, k114, k48, e1, if_neg n47, if_neg n114, hA, hB, e3, if_true, if_false]
        refine ⟨⟨one _, by rw [L]; omega⟩, ?_⟩
        refine ⟨by rw [L]; omega, by rw [L]; omega, ⟨one _, by rw [L]; omega⟩, ?_⟩
        refine w_partsR (by omega) fun f l hp => ?_
        have lp := parts_len hp
        by_cases hf : f = []
        · subst hf
          refine (if_pos rfl).mpr (w_int (by omega) (w_int (by omega) (nin_finT bd1 (q _ _ _ _ _ ⟨_, _, (.inl ⟨h47, rfl, rfl⟩), hz, .inr ⟨rfl, _, _, _, _, rfl, hah, rfl, hp, (if_pos rfl).symm, rfl⟩⟩))))
        · refine (if_neg (fun z => hf (S_inj z))).mpr (w_int (by omega) (w_int (by omega) (w_int (by omega) (nin_finT bd1 (q _ _ _ _ _ ⟨_, _, (.inl ⟨h47, rfl, rfl⟩), hz, .inr ⟨rfl, _, _, _, _, rfl, hah, rfl, hp, (if_neg hf).symm, rfl⟩⟩)))))
      · have e3 := part_none h114
        simp only [m_number_in, b_number_in, M.to_W, M.none_W, M.bind_W, M.ret_W, M.need_W, M.the_W, M.ifb_W, M.anyOf_W, M.still_W, M.roll_W, M.pick_W, M.thn_W, M.thn_nx, M.thn_rt, M.thn_bk, M.thn_ct, M.fin_W, M.fin_rt, M.finN_W, M.finN_rt, M.finN_nx, M.FK_nx, M.FK_ct, M.FK_bk, M.FK_rt, decide_eq_true_eq, if_true, if_false, Bool.false_eq_true, Bool.not_eq_true', decide_eq_false_iff_not, Bool.not_true, Bool.not_false, ite_not, k45, k43, kE, k47, k40, k41, k114, k48, e1, if_neg n47, hA, hB, e3, if_true, if_false]
        refine ⟨⟨one _, by rw [L]; omega⟩, ?_⟩
        refine ⟨by rw [L]; omega, by rw [L]; omega, ⟨one _, by rw [L]; omega⟩, ?_⟩
        by_cases hf : x = []
        · subst hf
          refine (if_pos rfl).mpr (w_int (by decide) (nin_finF bd1 (q _ _ _ _ _ ⟨_, _, (.inl ⟨h47, rfl, rfl⟩), hz, .inl ⟨rfl, h114, (if_pos rfl).symm, pI_zero, rfl⟩⟩) rfl))
        · refine (if_neg (fun z => hf (S_inj z))).mpr (w_int (by omega) (w_int (by decide) (nin_finF bd1 (q _ _ _ _ _ ⟨_, _, (.inl ⟨h47, rfl, rfl⟩), hz, .inl ⟨rfl, h114, (if_neg hf).symm, pI_zero, rfl⟩⟩) rfl)))
end
end PF2
set_option maxHeartbeats 400000
namespace PF2
open PF PySem PySem.Spec PyProof.Rows L2 SlX TX SX TL
structure Vd (g : Nm) : Prop where
  n : Nrm g
  r : g.p ≠ 0 → isRootB g.r = true
theorem Vd.r0 {g : Nm} (h : Vd g) : 0 ≤ g.r ∧ g.r ≤ 999 := by
  by_cases p : g.p = 0
  · rw [h.n.r p]; decide
  · obtain ⟨h1, h2, _⟩ := root_parts (h.r p)
    omega
def unL (b : Int) : List Nat := if b = 1 then [] else 47 :: nI b
def whL (t p r : Int) : List Nat := nI t ++ ((if 0 < p then [43] else []) ++ nI p) ++ 114 :: nI r
def cL (n : Nm) : List Nat := if n.p = 0 then nI n.t ++ unL n.b else if n.t = 0 then (nI n.p ++ 114 :: nI n.r) ++ unL n.b else if n.b = 1 then whL n.t n.p n.r else (40 :: (whL n.t n.p n.r ++ [41])) ++ unL n.b
theorem un_S (b : Int) : underT b = S (unL b) := by
  unfold underT unL
  split
  · exact kE
  · rw [show Str.empty = S [] from rfl, k47, s_int, S_cat, S_cat]; rfl
theorem wh_S (t p r : Int) : wholeT t p r = S (whL t p r) := by
  unfold wholeT whL
  have e : (if 0 < p then (Str.ofString "+") else Str.ofString "" : Str) = S (if 0 < p then [43] else []) := by
    split
    · exact k43
    · exact kE
  rw [e, show Str.empty = S [] from rfl, k114, s_int, s_int, s_int]
  simp only [S_cat]
  simp
theorem told_S (n : Nm) : toldT n.t n.p n.r n.b = S (cL n) := by
  unfold toldT cL
  by_cases h1 : n.p = 0
  · rw [if_pos h1, if_pos h1, un_S, show Str.empty = S [] from rfl, s_int, S_cat, S_cat]; rfl
  · rw [if_neg h1, if_neg h1]
    by_cases h2 : n.t = 0
    · rw [if_pos h2, if_pos h2, un_S, show Str.empty = S [] from rfl, s_int, s_int, k114]
      simp only [S_cat]
      simp
    · rw [if_neg h2, if_neg h2]
      by_cases h3 : n.b = 1
      · rw [if_pos h3, if_pos h3, wh_S]
      · rw [if_neg h3, if_neg h3, wh_S, un_S, show Str.empty = S [] from rfl, k40, k41]
        simp only [S_cat]
        simp
theorem fdiv_abs {a s : Int} (h : s ∣ a) : (a.fdiv s).natAbs ≤ a.natAbs := by
  by_cases s0 : s = 0
  · subst s0
    rw [Int.fdiv_zero]; simp
  · have e := fdiv_mul h
    have : a.natAbs = (a.fdiv s).natAbs * s.natAbs := by rw [← Int.natAbs_mul, e]
    rw [this]
    exact Nat.le_mul_of_pos_right _ (by omega)
theorem mk_gd {t p r b : Int} {k : Nat} (hk : 10 ≤ k) (h : b ≠ 0) (ht : Bd k t) (hp : Bd k p) (hb : Bd k b) (hr : p ≠ 0 → 0 ≤ r ∧ r ≤ 999) : Gd k (mkNm t p r b) := by
  obtain ⟨d1, d2, d3⟩ := share_dvd (t := t) (p := p) (b := b)
  have v := (mkNm_nrm t p r h).b
  refine ⟨by omega, ht.le (fdiv_abs d1), hp.le (fdiv_abs d2), hb.le (fdiv_abs d3), ?_, ?_⟩
  · show Bd 10 (if p = 0 then 0 else r)
    split
    · exact bd_sm (by decide) (by decide)
    · next z => have := hr z; exact bd_sm (by omega) (by decide)
  · show 0 ≤ (if p = 0 then 0 else r)
    split
    · exact Int.le_refl _
    · next z => exact (hr z).1
theorem mk_p {t p r b : Int} (h : (mkNm t p r b).p ≠ 0) : p ≠ 0 := fun e => h (by
  show p.fdiv _ = 0
  rw [e, Int.zero_fdiv])
theorem nin_vd {x : List Nat} {ob ot op or : Option Int} {lt : Bool} {n : Nm} (h : NinR x ob ot op or lt) (e : finN ob ot op or lt = some n) : Vd n ∧ Gd 9000 n := by
  obtain ⟨y, z, h1, _, h3⟩ := h.ex
  unfold finN at e
  split at e
  · next b t p =>
    split at e
    · cases e
    · next b0 =>
      split at e
      · cases e
      · next hr =>
        cases e
        have hb : Bd 4000 b := by
          rcases h1 with ⟨_, _, e⟩ | ⟨u, _, _, e⟩
          · cases e; exact bd_sm (by decide) (by decide)
          · exact pI_bits e.symm
        have root : p ≠ 0 → isRootB (or.getD 0) = true := fun hp => by
          rcases h3 with ⟨_, _, _, e, _⟩ | ⟨hl, _⟩
          · cases e; exact absurd rfl hp
          · have := Classical.not_and_iff_not_or_not.mp hr
            rcases this with q | q
            · exact absurd hl q
            · cases or with
              | none => exact absurd rfl q
              | some r => cases hh : isRootB r with
                | true => exact hh
                | false => exact absurd hh q
        have tp : Bd 4000 t ∧ Bd 4000 p := by
          rcases h3 with ⟨_, _, e1, e2, _⟩ | ⟨_, ah, bh, f, l, _, _, _, _, e1, e2⟩
          · cases e2
            refine ⟨?_, bd_sm (by decide) (by decide)⟩
            split at e1
            · cases e1; exact bd_sm (by decide) (by decide)
            · exact pI_bits e1.symm
          · refine ⟨?_, pI_bits e2.symm⟩
            split at e1
            · cases e1; exact bd_sm (by decide) (by decide)
            · exact pI_bits e1.symm
        refine ⟨⟨mkNm_nrm _ _ _ b0, fun hp => ?_⟩, mk_gd (by decide) b0 (tp.1.mono (by decide)) (tp.2.mono (by decide)) (hb.mono (by decide)) fun hp => ?_⟩
        · have p0 := mk_p hp
          show isRootB (if p = 0 then 0 else or.getD 0) = true
          rw [if_neg p0]
          exact root p0
        · obtain ⟨h1, h2, _⟩ := root_parts (root hp)
          omega
  · cases e
theorem last_uniq {b : Nat} {p q p' q' : List Nat} (h : p ++ b :: q = p' ++ b :: q') (h1 : b ∉ q) (h2 : b ∉ q') : p = p' ∧ q = q' := by
  have h' := congrArg List.reverse h
  simp only [List.reverse_append, List.reverse_cons, List.append_assoc, List.singleton_append] at h'
  obtain ⟨e1, e2⟩ := first_uniq h' (by simpa using h1) (by simpa using h2)
  exact ⟨List.reverse_inj.mp e2, List.reverse_inj.mp e1⟩
theorem pI_nI {i : Int} (h : (nI i).length ≤ 1000) : pI (nI i) = some i := by
  unfold pI
  have e := sg_nI i
  have l := sg_len (nI i)
  have ne : 1 ≤ (numL i.natAbs).length := List.length_pos_iff.mpr (numL_ne _)
  rw [e] at l ⊢
  rw [if_pos ⟨ne, by omega, dg_num _⟩, iv_nI]
theorem nI_head (i : Int) : (nI i).head? ≠ some 40 := fun h => nI_free (i := i) (s := 40) (by omega) (by omega) (List.mem_of_mem_head? h)
theorem nI_hd {i : Int} {w : List Nat} : (nI i ++ w).head? ≠ some 40 := fun h => by
  have ne := nI_ne i
  cases e : nI i with
  | nil => exact ne e
  | cons x l =>
    rw [e] at h
    have : x = 40 := by simpa using h
    exact nI_head i (by rw [e, this]; rfl)
theorem unb_id {y z : List Nat} (h : y.head? ≠ some 40) (u : UnB y z) : z = y := by
  rcases u with ⟨e, _⟩ | e
  · exact e
  · exact absurd (by rw [e]; rfl) h
theorem unb_br {z' z : List Nat} (u : UnB (40 :: (z' ++ [41])) z) : z = z' := by
  rcases u with ⟨_, n⟩ | e
  · exact absurd ⟨rfl, by rw [← List.cons_append, List.getLast?_concat]⟩ n
  · injection e with _ e
    exact (List.append_cancel_right e).symm
theorem under_of {y : List Nat} {b : Int} {y' : List Nat} {ob : Option Int} (hy : 47 ∉ y) (hb : (unL b).length ≤ 1000) (h : (47 ∉ y ++ unL b ∧ y' = y ++ unL b ∧ ob = some 1) ∨ ∃ u, y ++ unL b = y' ++ 47 :: u ∧ 47 ∉ y' ∧ ob = pI u) : y' = y ∧ ob = some b := by
  unfold unL at h hb
  by_cases h1 : b = 1
  · rw [if_pos h1, List.append_nil] at h
    rcases h with ⟨_, e1, e2⟩ | ⟨u, e1, _⟩
    · exact ⟨e1, by rw [e2, h1]⟩
    · exact absurd (by rw [e1]; simp) hy
  · rw [if_neg h1] at h hb
    rcases h with ⟨n, _⟩ | ⟨u, e1, e2, e3⟩
    · exact absurd (by simp) n
    · obtain ⟨q1, q2⟩ := first_uniq e1 hy e2
      exact ⟨q1.symm, by rw [e3, ← q2]; exact pI_nI (by rw [List.length_cons] at hb; omega)⟩
def rdR (z : List Nat) (ot op or : Option Int) (lt : Bool) : Prop :=
  (lt = false ∧ 114 ∉ z ∧ ot = (if z = [] then some 0 else pI z) ∧ op = some 0 ∧ or = some 0) ∨ (lt = true ∧ ∃ ah bh f l, z = ah ++ 114 :: bh ∧ 114 ∉ ah ∧ or = pI bh ∧ PartsR ah f l ∧ ot = (if f = [] then some 0 else pI f) ∧ op = pI l)
theorem rd_int {t : Int} {ot op or : Option Int} {lt : Bool} (hl : (nI t).length ≤ 1000) (h : rdR (nI t) ot op or lt) : lt = false ∧ ot = some t ∧ op = some 0 ∧ or = some 0 := by
  have n := nI_free (i := t) (s := 114) (by omega) (by omega)
  rcases h with ⟨h1, _, h2, h3, h4⟩ | ⟨_, ah, bh, f, l, e, _⟩
  · rw [if_neg (nI_ne t), pI_nI hl] at h2
    exact ⟨h1, h2, h3, h4⟩
  · exact absurd (by rw [e]; simp) n
theorem rd_let {a : List Nat} {r : Int} {ot op or : Option Int} {lt : Bool} (ha : 114 ∉ a) (hl : (nI r).length ≤ 1000) (h : rdR (a ++ 114 :: nI r) ot op or lt) : lt = true ∧ or = some r ∧ ∃ f l, PartsR a f l ∧ ot = (if f = [] then some 0 else pI f) ∧ op = pI l := by
  rcases h with ⟨_, n, _⟩ | ⟨h1, ah, bh, f, l, e, h2, h3, h4, h5, h6⟩
  · exact absurd (by simp) n
  · obtain ⟨q1, q2⟩ := first_uniq e ha h2
    subst q1 q2
    exact ⟨h1, by rw [h3, pI_nI hl], f, l, h4, h5, h6⟩
theorem parts_one {p : Int} {f l : List Nat} (h : PartsR (nI p) f l) : f = [] ∧ l = nI p := by
  have n43 := nI_free (i := p) (s := 43) (by omega) (by omega)
  rcases h with ⟨_, _, h1, h2⟩ | ⟨e, _⟩ | ⟨v, _, e, hv, hf, _⟩
  · exact ⟨h1, h2⟩
  · exact absurd (by rw [e]; simp) n43
  · exfalso
    by_cases hp : p < 0
    · rw [nI_neg hp] at e
      cases f with
      | nil => exact hf rfl
      | cons x f =>
        have e : 45 :: numL p.natAbs = x :: (f ++ 45 :: v) := e
        injection e with _ e
        exact numL_free45 _ (by rw [e]; simp)
    · rw [nI_nn (by omega)] at e
      exact numL_free45 _ (by rw [e]; simp)
theorem parts_two {t p : Int} {f l : List Nat} (hp : p ≠ 0) (h : PartsR (nI t ++ ((if 0 < p then [43] else []) ++ nI p)) f l) : f = nI t ∧ l = nI p := by
  have t43 := nI_free (i := t) (s := 43) (by omega) (by omega)
  have p43 := nI_free (i := p) (s := 43) (by omega) (by omega)
  by_cases h0 : 0 < p
  · rw [if_pos h0] at h
    have h : PartsR (nI t ++ 43 :: nI p) f l := h
    rcases h with ⟨n, _⟩ | ⟨e, hl⟩ | ⟨v, n, _⟩
    · exact (n _ _ rfl).elim
    · obtain ⟨q1, q2⟩ := last_uniq e p43 hl
      exact ⟨q1.symm, q2.symm⟩
    · exact absurd (by simp) n
  · rw [if_neg h0, List.nil_append, nI_neg (show p < 0 by omega)] at h
    rcases h with ⟨_, n, _⟩ | ⟨e, _⟩ | ⟨v, _, e, hv, _, el⟩
    · exact absurd (n _ _ rfl) (nI_ne t)
    · have : 43 ∈ nI t ++ 45 :: numL p.natAbs := by rw [e]; simp
      rcases List.mem_append.mp this with m | m
      · exact absurd m t43
      · rcases List.mem_cons.mp m with m | m
        · cases m
        · exact absurd m (numL_free (by omega))
    · obtain ⟨q1, q2⟩ := last_uniq e (numL_free45 _) hv
      exact ⟨q1.symm, by rw [el, ← q2, nI_neg (show p < 0 by omega)]⟩
theorem fin_ok {g : Nm} (v : Vd g) {or : Option Int} {lt : Bool} (h : (lt = false ∧ or = some 0 ∧ g.p = 0) ∨ (lt = true ∧ or = some g.r ∧ g.p ≠ 0)) : finN (some g.b) (some g.t) (some g.p) or lt = some g := by
  unfold finN
  have hb := v.n.b
  dsimp only
  rw [if_neg (by omega)]
  rcases h with ⟨rfl, rfl, hp⟩ | ⟨rfl, rfl, hp⟩
  · rw [if_neg (by simp)]
    have e := mkNm_self v.n
    rw [v.n.r hp] at e
    rw [show (some (0 : Int)).getD 0 = 0 from rfl, e]
  · rw [if_neg (by
      rintro ⟨_, z⟩
      have z : isRootB g.r = false := z
      rw [v.r hp] at z; cases z)]
    rw [show (some g.r).getD 0 = g.r from rfl, mkNm_self v.n]
theorem nin_cL {g : Nm} {ob ot op or : Option Int} {lt : Bool} (v : Vd g) (hl : (cL g).length ≤ 1000) (h : NinR (cL g) ob ot op or lt) : finN ob ot op or lt = some g := by
  obtain ⟨y, z, h1, h2, h3⟩ := h.ex
  have h3 : rdR z ot op or lt := h3
  have f47 := fun i => nI_free (i := i) (s := 47) (by omega) (by omega)
  have f114 := fun i => nI_free (i := i) (s := 114) (by omega) (by omega)
  unfold cL at h1 hl
  by_cases hp : g.p = 0
  · rw [if_pos hp] at h1 hl
    rw [List.length_append] at hl
    obtain ⟨rfl, rfl⟩ := under_of (f47 _) (by omega) h1
    obtain rfl := unb_id (nI_head _) h2
    obtain ⟨rfl, rfl, rfl, rfl⟩ := rd_int (by omega) h3
    have := fin_ok v (or := some 0) (lt := false) (.inl ⟨rfl, rfl, hp⟩)
    rw [hp] at this
    exact this
  · rw [if_neg hp] at h1 hl
    by_cases ht : g.t = 0
    · rw [if_pos ht] at h1 hl
      simp only [List.length_append, List.length_cons] at hl
      obtain ⟨rfl, rfl⟩ := under_of (by
        simp only [List.mem_append, List.mem_cons, not_or]
        exact ⟨f47 _, by decide, f47 _⟩) (by omega) h1
      obtain rfl := unb_id nI_hd h2
      obtain ⟨rfl, rfl, f, l, q1, q2, q3⟩ := rd_let (f114 _) (by omega) h3
      obtain ⟨rfl, rfl⟩ := parts_one q1
      rw [if_pos rfl] at q2
      rw [pI_nI (by omega)] at q3
      subst q2 q3
      have := fin_ok v (or := some g.r) (lt := true) (.inr ⟨rfl, rfl, hp⟩)
      rw [ht] at this
      exact this
    · rw [if_neg ht] at h1 hl
      have a114 : 114 ∉ nI g.t ++ ((if 0 < g.p then [43] else []) ++ nI g.p) := by
        simp only [List.mem_append, not_or]
        refine ⟨f114 _, ?_, f114 _⟩
        split <;> simp
      have w47 : 47 ∉ whL g.t g.p g.r := by
        unfold whL
        simp only [List.mem_append, List.mem_cons, not_or]
        refine ⟨⟨f47 _, ?_, f47 _⟩, by decide, f47 _⟩
        split <;> simp
      have fin : (whL g.t g.p g.r).length ≤ 1000 → rdR (whL g.t g.p g.r) ot op or lt → finN (some g.b) ot op or lt = some g := fun hw h3 => by
        unfold whL at hw h3
        simp only [List.length_append, List.length_cons] at hw
        obtain ⟨rfl, rfl, f, l, q1, q2, q3⟩ := rd_let a114 (by omega) h3
        obtain ⟨rfl, rfl⟩ := parts_two hp q1
        rw [if_neg (nI_ne _), pI_nI (by omega)] at q2
        rw [pI_nI (by omega)] at q3
        subst q2 q3
        exact fin_ok v (.inr ⟨rfl, rfl, hp⟩)
      by_cases hb : g.b = 1
      · rw [if_pos hb] at h1 hl
        have e : whL g.t g.p g.r = whL g.t g.p g.r ++ unL g.b := by unfold unL; rw [if_pos hb, List.append_nil]
        rw [e] at h1
        obtain ⟨rfl, rfl⟩ := under_of w47 (by unfold unL; rw [if_pos hb]; simp) h1
        have hd : (whL g.t g.p g.r).head? ≠ some 40 := by
          unfold whL
          rw [List.append_assoc]
          exact nI_hd
        obtain rfl := unb_id hd h2
        exact fin hl h3
      · rw [if_neg hb] at h1 hl
        simp only [List.length_append, List.length_cons, List.length_nil] at hl
        obtain ⟨rfl, rfl⟩ := under_of (by
          simp only [List.mem_append, List.mem_cons, List.not_mem_nil, not_or, or_false]
          exact ⟨by decide, w47, by decide⟩) (by omega) h1
        obtain rfl := unb_br h2
        exact fin (by omega) h3
section
variable {c : Nat} {X : Er → Prop}
theorem nI_bd {i : Int} {k : Nat} (h : (nI i).length ≤ k) : Bd (4 * k) i := by
  have e := iv_bits (a := nI i) (k := k) (m := 4 * k) (by rw [sg_nI]; exact dg_num _) (Nat.le_trans (sg_len _) h) (Nat.le_refl _)
  rw [iv_nI] at e
  exact e
theorem cL_parts (g : Nm) : (nI g.t).length ≤ (cL g).length + 1 ∧ (nI g.p).length ≤ (cL g).length + 1 ∧ (nI g.b).length ≤ (cL g).length + 1 := by
  have z : (nI 0).length = 1 := by decide +kernel
  have o : (nI 1).length = 1 := by decide +kernel
  have ub : (nI g.b).length ≤ (unL g.b).length + 1 := by
    unfold unL
    split
    · next e => rw [e, o]; simp
    · rw [List.length_cons]; omega
  unfold cL
  split
  · next e =>
    rw [e, z, List.length_append]
    omega
  · split
    · next e =>
      rw [e, z]
      simp only [List.length_append, List.length_cons]
      omega
    · split
      · next e =>
        rw [e, o]
        unfold whL
        simp only [List.length_append, List.length_cons]
        omega
      · unfold whL
        simp only [List.length_append, List.length_cons, List.length_nil]
        omega
theorem Vd.gd {g : Nm} (v : Vd g) (hl : (cL g).length ≤ 1000) : Gd 9000 g := by
  obtain ⟨h1, h2, h3⟩ := cL_parts g
  have r := v.r0
  exact ⟨by have := v.n.b; omega, (nI_bd (k := 1001) (by omega)).mono (by decide), (nI_bd (k := 1001) (by omega)).mono (by decide), (nI_bd (k := 1001) (by omega)).mono (by decide), bd_sm (by omega) (by decide), r.1⟩
def fD (g : Nm) : PyData := .tuple [.int g.t, .int g.p, .int g.r, .int g.b]
theorem rd_eq {x : List Nat} {g : Nm} (e : toldT g.t g.p g.r g.b = S x) : x = cL g := by
  rw [told_S] at e
  exact (S_inj e).symm
abbrev pE0 : Er := ⟨"ParseError", .int 0⟩
theorem w_rdX {x : List Nat} {Q : Nm → Nat → Prop} (hl : x.length ≤ 3000) (h : ∀ o, (∀ ob ot op or lt, NinR x ob ot op or lt → finN ob ot op or lt = o → (∀ n, o = some n → Gd 9000 n) ∧ (∀ n, o = some n → toldT n.t n.p n.r n.b = S x → Q n c) ∧ ((∀ n, o = some n → toldT n.t n.p n.r n.b ≠ S x) → X pE0))) : M.W (m_Number_read_X ((), .inl (.str (S x)), ())) c Q X := by
  simp only [m_Number_read_X, b_Number_read_X, M.to_W, M.none_W, M.bind_W, M.ret_W, M.need_W, M.the_W, M.ifb_W, M.anyOf_W, M.still_W, M.roll_W, M.pick_W, M.thn_W, M.thn_nx, M.thn_rt, M.thn_bk, M.thn_ct, M.fin_W, M.fin_rt, M.finN_W, M.finN_rt, M.finN_nx, M.FK_nx, M.FK_ct, M.FK_bk, M.FK_rt, decide_eq_true_eq, if_true, if_false, Bool.false_eq_true, Bool.not_eq_true', decide_eq_false_iff_not, Bool.not_true, Bool.not_false, ite_not, sumE, lftS, dStr, M.safe_W, M.raise_W]
  rw [if_pos (show isD "str" (PyData.str (S x)) = true from rfl)]
  refine ⟨_, rfl, _, rfl, w_nin hl fun ob ot op or lt r => ?_⟩
  obtain ⟨h1, h2, h3⟩ := h _ ob ot op or lt r rfl
  cases e : finN ob ot op or lt with
  | none =>
    rw [e] at h3
    rw [if_pos (show (none : Option Nm).isNone = true from rfl)]
    exact h3 (fun n z => by cases z)
  | some n =>
    rw [e] at h1 h2 h3
    rw [if_neg (by simp)]
    refine ⟨n, rfl, h1 n rfl, _, rfl, _, rfl, ?_⟩
    by_cases z : toldT n.t n.p n.r n.b = S x
    · rw [if_pos z]
      exact ⟨n, rfl, h2 n rfl z⟩
    · rw [if_neg z]
      exact h3 fun m em => by
        cases em
        exact z
theorem w_rdX_some {g : Nm} {Q : Nm → Nat → Prop} (v : Vd g) (hl : (cL g).length ≤ 1000) (q : Q g c) : M.W (m_Number_read_X ((), .inl (.str (S (cL g))), ())) c Q X :=
  w_rdX (by omega) fun o ob ot op or lt r e => by
    have e2 := nin_cL v hl r
    rw [e2] at e
    subst e
    exact ⟨fun n z => by cases z; exact v.gd hl, fun n z _ => by cases z; exact q, fun z => absurd (told_S g) (z g rfl)⟩
theorem w_rdX_none {x : List Nat} {Q : Nm → Nat → Prop} (hl : x.length ≤ 3000) (n : ∀ g, Vd g → x ≠ cL g) (q : X pE0) : M.W (m_Number_read_X ((), .inl (.str (S x)), ())) c Q X :=
  w_rdX hl fun o ob ot op or lt r e => by
    refine ⟨fun m em => ?_, fun m em z => ?_, fun _ => q⟩
    · subst em
      exact (nin_vd r e).2
    · subst em
      exact absurd (rd_eq z) (n m (nin_vd r e).1)
theorem w_form {g : Nm} {Q : Int × Int × Int × Int × Unit → Nat → Prop} (q : Q (g.t, g.p, g.r, g.b, ()) c) : M.W (m__law_form (g, ())) c Q X := by
  simp only [m__law_form, b__law_form, M.to_W, M.none_W, M.bind_W, M.ret_W, M.need_W, M.the_W, M.ifb_W, M.anyOf_W, M.still_W, M.roll_W, M.pick_W, M.thn_W, M.thn_nx, M.thn_rt, M.thn_bk, M.thn_ct, M.fin_W, M.fin_rt, M.finN_W, M.finN_rt, M.finN_nx, M.FK_nx, M.FK_ct, M.FK_bk, M.FK_rt, decide_eq_true_eq, if_true, if_false, Bool.false_eq_true, Bool.not_eq_true', decide_eq_false_iff_not, Bool.not_true, Bool.not_false, ite_not]
  exact q
theorem w_caught {Q : PyData → Nat → Prop} {v : PyData ⊕ Nm ⊕ Unit} (h : ∀ {Q : Nm → Nat → Prop} {X : Er → Prop}, X pE0 → M.W (m_Number_read_X ((), v, ())) 0 Q X) (q : Q .none c) : M.W (m__law_read (v, ())) c Q X := by
  simp only [m__law_read, b__law_read, M.to_W, M.none_W, M.bind_W, M.ret_W, M.need_W, M.the_W, M.ifb_W, M.anyOf_W, M.still_W, M.roll_W, M.pick_W, M.thn_W, M.thn_nx, M.thn_rt, M.thn_bk, M.thn_ct, M.fin_W, M.fin_rt, M.finN_W, M.finN_rt, M.finN_nx, M.FK_nx, M.FK_ct, M.FK_bk, M.FK_rt, decide_eq_true_eq, if_true, if_false, Bool.false_eq_true, Bool.not_eq_true', decide_eq_false_iff_not, Bool.not_true, Bool.not_false, ite_not, M.tryM_W, M.byE_W, M.safe_W]
  refine h ?_
  refine .inl ⟨List.mem_cons_self .., rfl, ⟨by decide +kernel, by decide +kernel, ?_, by decide +kernel⟩, ?_⟩
  · have := sizeLine_eq
    have e : pE0.val.shown.length = 1 := by decide +kernel
    omega
  · rw [if_pos (by decide +kernel)]
    exact q
theorem w_read_some {g : Nm} {Q : PyData → Nat → Prop} (v : Vd g) (hl : (cL g).length ≤ 1000) (q : Q (fD g) c) : M.W (m__law_read (.inl (.str (S (cL g))), ())) c Q X := by
  simp only [m__law_read, b__law_read, M.to_W, M.none_W, M.bind_W, M.ret_W, M.need_W, M.the_W, M.ifb_W, M.anyOf_W, M.still_W, M.roll_W, M.pick_W, M.thn_W, M.thn_nx, M.thn_rt, M.thn_bk, M.thn_ct, M.fin_W, M.fin_rt, M.finN_W, M.finN_rt, M.finN_nx, M.FK_nx, M.FK_ct, M.FK_bk, M.FK_rt, decide_eq_true_eq, if_true, if_false, Bool.false_eq_true, Bool.not_eq_true', decide_eq_false_iff_not, Bool.not_true, Bool.not_false, ite_not, M.tryM_W, M.byE_W, M.safe_W]
  refine w_rdX_some v hl (w_form ?_)
  exact q
theorem w_read_none {x : List Nat} {Q : PyData → Nat → Prop} (hl : x.length ≤ 3000) (n : ∀ g, Vd g → x ≠ cL g) (q : Q .none c) : M.W (m__law_read (.inl (.str (S x)), ())) c Q X :=
  w_caught (fun hx => w_rdX_none hl n hx) q
theorem w_read_bad {v : PyData ⊕ Nm ⊕ Unit} {Q : PyData → Nat → Prop} (h : ∀ d, v = .inl d → isD "str" d = false) (q : Q .none c) : M.W (m__law_read (v, ())) c Q X :=
  w_caught (fun {Q X} hx => by
    simp only [m_Number_read_X, b_Number_read_X, M.to_W, M.none_W, M.bind_W, M.ret_W, M.need_W, M.the_W, M.ifb_W, M.anyOf_W, M.still_W, M.roll_W, M.pick_W, M.thn_W, M.thn_nx, M.thn_rt, M.thn_bk, M.thn_ct, M.fin_W, M.fin_rt, M.finN_W, M.finN_rt, M.finN_nx, M.FK_nx, M.FK_ct, M.FK_bk, M.FK_rt, decide_eq_true_eq, if_true, if_false, Bool.false_eq_true, Bool.not_eq_true', decide_eq_false_iff_not, Bool.not_true, Bool.not_false, ite_not, sumE, M.safe_W, M.raise_W]
    rcases v with d | n | u
    · simp only [M.to_W, M.none_W, M.bind_W, M.ret_W, M.need_W, M.the_W, M.ifb_W, M.anyOf_W, M.still_W, M.roll_W, M.pick_W, M.thn_W, M.thn_nx, M.thn_rt, M.thn_bk, M.thn_ct, M.fin_W, M.fin_rt, M.finN_W, M.finN_rt, M.finN_nx, M.FK_nx, M.FK_ct, M.FK_bk, M.FK_rt, decide_eq_true_eq, if_true, if_false, Bool.false_eq_true, Bool.not_eq_true', decide_eq_false_iff_not, Bool.not_true, Bool.not_false, ite_not, h d rfl]
      rw [if_pos (show (none : Option Nm).isNone = true from rfl)]
      exact hx
    · simp only [M.to_W, M.none_W, M.bind_W, M.ret_W, M.need_W, M.the_W, M.ifb_W, M.anyOf_W, M.still_W, M.roll_W, M.pick_W, M.thn_W, M.thn_nx, M.thn_rt, M.thn_bk, M.thn_ct, M.fin_W, M.fin_rt, M.finN_W, M.finN_rt, M.finN_nx, M.FK_nx, M.FK_ct, M.FK_bk, M.FK_rt, decide_eq_true_eq, if_true, if_false, Bool.false_eq_true, Bool.not_eq_true', decide_eq_false_iff_not, Bool.not_true, Bool.not_false, ite_not]
      rw [if_pos (show (none : Option Nm).isNone = true from rfl)]
      exact hx
    · simp only [M.to_W, M.none_W, M.bind_W, M.ret_W, M.need_W, M.the_W, M.ifb_W, M.anyOf_W, M.still_W, M.roll_W, M.pick_W, M.thn_W, M.thn_nx, M.thn_rt, M.thn_bk, M.thn_ct, M.fin_W, M.fin_rt, M.finN_W, M.finN_rt, M.finN_nx, M.FK_nx, M.FK_ct, M.FK_bk, M.FK_rt, decide_eq_true_eq, if_true, if_false, Bool.false_eq_true, Bool.not_eq_true', decide_eq_false_iff_not, Bool.not_true, Bool.not_false, ite_not]
      rw [if_pos (show (none : Option Nm).isNone = true from rfl)]
      exact hx) q
end
section
variable {c : Nat} {X : Er → Prop}
def Eu (G : Nat) (i : Nat) (ρ : Int × Int × Unit × Unit) : Prop := ∃ a b : Nat, ρ = ((a : Int), (b : Int), (), ()) ∧ Nat.gcd a b = G ∧ (b = 0 ∨ (i = 0 ∧ a * b * 2 ≤ 2 ^ 8801) ∨ (b ≤ a ∧ a * b * 2 ^ i ≤ 2 ^ 8801))
theorem eu_step {a b i : Nat} (h0 : b ≠ 0) (h : b = 0 ∨ (i = 0 ∧ a * b * 2 ≤ 2 ^ 8801) ∨ (b ≤ a ∧ a * b * 2 ^ i ≤ 2 ^ 8801)) : a % b = 0 ∨ (i + 1 = 0 ∧ b * (a % b) * 2 ≤ 2 ^ 8801) ∨ (a % b ≤ b ∧ b * (a % b) * 2 ^ (i + 1) ≤ 2 ^ 8801) := by
  have lt : a % b < b := Nat.mod_lt a (by omega)
  refine .inr (.inr ⟨by omega, ?_⟩)
  rcases h with h | ⟨rfl, h⟩ | ⟨hle, h⟩
  · exact absurd h h0
  · have m : a % b ≤ a := Nat.mod_le a b
    calc b * (a % b) * 2 ^ (0 + 1) ≤ b * a * 2 ^ (0 + 1) := Nat.mul_le_mul_right _ (Nat.mul_le_mul_left _ m)
      _ = a * b * 2 := by rw [Nat.mul_comm b a]
      _ ≤ _ := h
  · have q : 1 ≤ a / b := (Nat.one_le_div_iff (by omega)).mpr hle
    have e := Nat.div_add_mod a b
    have m : 2 * (a % b) ≤ a := by
      have : b ≤ b * (a / b) := Nat.le_mul_of_pos_right _ (by omega)
      omega
    calc b * (a % b) * 2 ^ (i + 1) = b * (2 * (a % b)) * 2 ^ i := by rw [Nat.pow_succ]; grind
      _ ≤ b * a * 2 ^ i := Nat.mul_le_mul_right _ (Nat.mul_le_mul_left _ m)
      _ = a * b * 2 ^ i := by rw [Nat.mul_comm b a]
      _ ≤ _ := h
theorem w_common {a b : Nat} {Q : Int → Nat → Prop} (ha : a < 2 ^ 4400) (hb : b < 2 ^ 4400) (q : Q ((Nat.gcd a b : Nat) : Int) c) : M.W (m__law_common ((a : Int), (b : Int), ())) c Q X := by
  simp only [m__law_common, b__law_common, M.to_W, M.none_W, M.bind_W, M.ret_W, M.need_W, M.the_W, M.ifb_W, M.anyOf_W, M.still_W, M.roll_W, M.pick_W, M.thn_W, M.thn_nx, M.thn_rt, M.thn_bk, M.thn_ct, M.fin_W, M.fin_rt, M.finN_W, M.finN_rt, M.finN_nx, M.FK_nx, M.FK_ct, M.FK_bk, M.FK_rt, decide_eq_true_eq, if_true, if_false, Bool.false_eq_true, Bool.not_eq_true', decide_eq_false_iff_not, Bool.not_true, Bool.not_false, ite_not]
  refine ⟨⟨by decide, by decide⟩, M.forM_inv (fun i ρ d => d = c ∧ Eu (Nat.gcd a b) i ρ) ⟨rfl, a, b, rfl, rfl, .inr (.inl ⟨rfl, ?_⟩)⟩ (fun i x ρ d hx hI => ?_) fun ρ d hI => ?_⟩
  · have h : a * b ≤ 2 ^ 4400 * 2 ^ 4400 := Nat.mul_le_mul (by omega) (by omega)
    rw [← Nat.pow_add] at h
    rw [show 8801 = (4400 + 4400) + 1 from rfl, Nat.pow_succ]
    exact Nat.mul_le_mul_right 2 h
  · obtain ⟨rfl, a', b', rfl, hg, hk⟩ := hI
    show M.W _ _ _ _
    simp only [M.to_W, M.none_W, M.bind_W, M.ret_W, M.need_W, M.the_W, M.ifb_W, M.anyOf_W, M.still_W, M.roll_W, M.pick_W, M.thn_W, M.thn_nx, M.thn_rt, M.thn_bk, M.thn_ct, M.fin_W, M.fin_rt, M.finN_W, M.finN_rt, M.finN_nx, M.FK_nx, M.FK_ct, M.FK_bk, M.FK_rt, decide_eq_true_eq, if_true, if_false, Bool.false_eq_true, Bool.not_eq_true', decide_eq_false_iff_not, Bool.not_true, Bool.not_false, ite_not]
    by_cases h0 : b' = 0
    · subst h0
      rw [if_pos (show ((0 : Nat) : Int) = 0 from rfl)]
      simp only [Nat.gcd_zero_right] at hg
      rw [hg]
      exact q
    · rw [if_neg (by omega)]
      refine ⟨by omega, trivial, b', a' % b', ?_, ?_, eu_step h0 hk⟩
      · rw [show (a' : Int).fmod (b' : Int) = ((a' % b' : Nat) : Int) by rw [Int.fmod_eq_emod_of_nonneg _ (by omega)]; rfl]
      · rw [← hg, Nat.gcd_comm b', ← Nat.gcd_rec, Nat.gcd_comm]
  · obtain ⟨rfl, a', b', rfl, hg, hk⟩ := hI
    have z : b' = 0 := by
      refine Classical.byContradiction fun n => ?_
      rw [rng_len] at hk
      rcases hk with h | ⟨h, _⟩ | ⟨hle, h⟩
      · exact n h
      · exact absurd h (by decide)
      · have h1 : 1 * 2 ^ 9000 ≤ a' * b' * 2 ^ 9000 := Nat.mul_le_mul_right _ (Nat.mul_pos (by omega) (by omega))
        have h2 : 2 ^ 8801 < 2 ^ 9000 := Nat.pow_lt_pow_right (by decide) (by decide)
        have h : a' * b' * 2 ^ 9000 ≤ 2 ^ 8801 := h
        omega
    subst z
    show Q _ _
    simp only [Nat.gcd_zero_right] at hg
    rw [hg]
    exact q
theorem abs_if (t : Int) : (if t < 0 then -t else t) = ((t.natAbs : Nat) : Int) := by
  split <;> omega
theorem w_least {t p r b : Int} {Q : Int × Int × Int × Int × Unit → Nat → Prop} (b0 : b ≠ 0) (ht : Bd 4400 t) (hp : Bd 4400 p) (hb : Bd 4400 b) (q : Q ((mkNm t p r b).t, (mkNm t p r b).p, (mkNm t p r b).r, (mkNm t p r b).b, ()) c) : M.W (m__law_least (t, p, r, b, ())) c Q X := by
  simp only [m__law_least, b__law_least, M.to_W, M.none_W, M.bind_W, M.ret_W, M.need_W, M.the_W, M.ifb_W, M.anyOf_W, M.still_W, M.roll_W, M.pick_W, M.thn_W, M.thn_nx, M.thn_rt, M.thn_bk, M.thn_ct, M.fin_W, M.fin_rt, M.finN_W, M.finN_rt, M.finN_nx, M.FK_nx, M.FK_ct, M.FK_bk, M.FK_rt, decide_eq_true_eq, if_true, if_false, Bool.false_eq_true, Bool.not_eq_true', decide_eq_false_iff_not, Bool.not_true, Bool.not_false, ite_not]
  rw [abs_if, abs_if]
  refine w_common ht hp ?_
  rw [abs_if]
  have g1 : Nat.gcd t.natAbs p.natAbs < 2 ^ 4400 := by
    by_cases z : Nat.gcd t.natAbs p.natAbs = 0
    · rw [z]; exact Nat.pow_pos (by decide)
    · by_cases y : t.natAbs = 0
      · rw [y, Nat.gcd_zero_left]; exact hp
      · exact Nat.lt_of_le_of_lt (Nat.gcd_le_left _ (by omega)) ht
  refine w_common g1 hb ?_
  have sb := share_bd (t := t) (p := p) b0 (hb.mono (show 4400 ≤ 9000 by decide))
  have sn := share_ne (t := t) (p := p) b0
  have cd : ∀ i : Int, CDvz i (share t p b) := fun i => sb.dvz sn (by decide)
  have e : share t p b = if 0 < b then gcd3 t p b else -gcd3 t p b := rfl
  show if b < 0 then _ else _
  by_cases hn : b < 0
  · rw [if_pos hn]
    have e2 : -((Nat.gcd (Nat.gcd t.natAbs p.natAbs) b.natAbs : Nat) : Int) = share t p b := by rw [e, if_neg (by omega)]; rfl
    rw [e2]
    refine ⟨cd _, cd _, ?_⟩
    unfold mkNm at q
    by_cases p0 : p = 0
    · rw [if_pos p0]
      rw [if_pos p0] at q
      exact ⟨cd _, q⟩
    · rw [if_neg p0]
      rw [if_neg p0] at q
      exact ⟨cd _, q⟩
  · rw [if_neg hn]
    have e2 : ((Nat.gcd (Nat.gcd t.natAbs p.natAbs) b.natAbs : Nat) : Int) = share t p b := by rw [e, if_pos (by omega)]; rfl
    rw [e2]
    refine ⟨cd _, cd _, ?_⟩
    unfold mkNm at q
    by_cases p0 : p = 0
    · rw [if_pos p0]
      rw [if_pos p0] at q
      exact ⟨cd _, q⟩
    · rw [if_neg p0]
      rw [if_neg p0] at q
      exact ⟨cd _, q⟩
end
end PF2
set_option maxHeartbeats 1000000
namespace PF2
open PF PySem PySem.Spec PyProof.Rows L2 SlX TX SX TL
section
variable {c : Nat} {X : Er → Prop}
def Ac (a : List Nat) : Prop := ∀ z ∈ a, z < 256
def lI (a : List Nat) : Option Int := if sg a ≠ [] ∧ dg (sg a) = true ∧ nI (iv a) = a then some (iv a) else none
theorem sok {z : Nat} (h : z < 256) : PyData.strOk (S [z]) = true := by
  unfold PyData.strOk
  refine Array.all_eq_true_iff_forall_mem.mpr fun y hy => ?_
  have : y = z := by simpa [S] using hy
  subst this
  exact decide_eq_true (by omega)
theorem sg_sub {a : List Nat} {z : Nat} (h : z ∈ sg a) : z ∈ a := by
  unfold sg at h
  split at h
  · exact List.mem_of_mem_tail h
  · exact h
theorem all_lay : ∀ {L : List Str}, (∀ s ∈ L, PyData.strOk s = true) → PyData.canLayAll0 (L.map .str) = true
  | [], _ => by simp [PyData.canLayAll0]
  | s :: L, h => by
    rw [List.map_cons, PyData.canLayAll0, PyData.canLay0, h s List.mem_cons_self, Bool.true_and]
    exact all_lay fun y hy => h y (List.mem_cons_of_mem _ hy)
theorem lay_drop {L : List Str} {p : Str → Bool} (h : ∀ s ∈ L, PyData.strOk s = true) : (PyData.list ((L.filterMap fun s => if p s = true then none else some s).map .str)).canLay0 = true := by
  rw [PyData.canLay0]
  refine all_lay fun s hs => ?_
  obtain ⟨y, hy, e⟩ := List.mem_filterMap.mp hs
  split at e
  · cases e
  · cases e; exact h _ hy
theorem nil_eqv {L : List Str} {p : Str → Bool} : (PyData.list ((L.filterMap fun s => if p s = true then none else some s).map .str)).eqv (PyData.list (([] : List Str).map .str)) = L.all p := by
  rw [List.map_nil, PyData.eqv]
  induction L with
  | nil => rfl
  | cons s L ih =>
    rw [List.filterMap_cons, List.all_cons]
    cases z : p s with
    | true => simpa [z] using ih
    | false => simp [z, PyData.eqvAll]
theorem all_dig2 (a : List Nat) : ((PF.signs (S a)).all fun s => inStr s (S [48, 49, 50, 51, 52, 53, 54, 55, 56, 57])) = dg a := by
  rw [← all_dig, List.all_map]; rfl
theorem w_lintK {a f : List Nat} {Q : Option Int → Nat → Prop} (ef : sg a = f) (ac : Ac a) (hl : a.length ≤ 470) (q : Q (lI a) c) : if S f = S [] then Q none c else (PF.signs (S f)).length ≤ 1000000 ∧ M.W (M.lcM (PF.signs (S f)) fun a229 => M.bind (M.bind (M.ret a229) fun x225 => M.bind (M.ret (S [48, 49, 50, 51, 52, 53, 54, 55, 56, 57])) fun x226 => M.ret (!inStr x225 x226)) fun b230 => M.ifb b230 (M.bind (M.ret a229) fun y231 => M.ret (some y231)) (M.ret none)) c (fun a_1 d => ((PyData.list (List.map PyData.str a_1)).canLay0 = true ∧ (PyData.list (List.map PyData.str [])).canLay0 = true) ∧ if (PyData.list (List.map PyData.str a_1)).eqv (PyData.list (List.map PyData.str [])) = false then Q none d else (S a).length ≤ sizeLine ∧ ∃ a_2, intText? (S a) = some a_2 ∧ a_2.natAbs.log2 < 1920 ∧ if Str.ofString (toString a_2) = S a then (S a).length ≤ sizeLine ∧ ∃ a_3, intText? (S a) = some a_3 ∧ Q (some a_3) d else Q none d) X := by
  have sl := sizeLine_eq
  have l1 := sg_len a
  subst ef
  unfold lI at q
  by_cases h0 : sg a = []
  · rw [if_pos (by rw [h0])]; rw [if_neg (fun z => z.1 h0)] at q; exact q
  · rw [if_neg (fun z => h0 (S_inj z))]
    refine ⟨by rw [signs_S, List.length_map]; omega, M.lcM_filter (g := fun s => if inStr s (S [48, 49, 50, 51, 52, 53, 54, 55, 56, 57]) = true then none else some s) (fun s _ Q q => ?_) ?_⟩
    · show M.W _ _ _ _
      simp only [M.to_W, M.none_W, M.bind_W, M.ret_W, M.need_W, M.the_W, M.ifb_W, M.anyOf_W, M.still_W, M.roll_W, M.pick_W, M.thn_W, M.thn_nx, M.thn_rt, M.thn_bk, M.thn_ct, M.fin_W, M.fin_rt, M.finN_W, M.finN_rt, M.finN_nx, M.FK_nx, M.FK_ct, M.FK_bk, M.FK_rt, decide_eq_true_eq, if_true, if_false, Bool.false_eq_true, Bool.not_eq_true', decide_eq_false_iff_not, Bool.not_true, Bool.not_false, ite_not]
      cases z : inStr s (S [48, 49, 50, 51, 52, 53, 54, 55, 56, 57]) with
      | true => rw [z] at q; simpa using q
      | false => rw [z] at q; simpa using q
    · have hz : ∀ s ∈ PF.signs (S (sg a)), PyData.strOk s = true := fun s hs => by
        rw [signs_S] at hs
        obtain ⟨z, hz, rfl⟩ := List.mem_map.mp hs
        exact sok (ac z (sg_sub hz))
      refine ⟨⟨lay_drop hz, by simp [PyData.canLay0, PyData.canLayAll0]⟩, ?_⟩
      rw [nil_eqv, all_dig2]
      by_cases h1 : dg (sg a) = true
      · rw [h1, if_neg (by decide)]
        refine ⟨by rw [S_len]; omega, _, int_of h1 h0 (by omega), ?_, ?_⟩
        · exact Nat.lt_trans (bd_log (iv_bits (k := 470) (m := 1880) h1 (by omega) (by decide)) (by decide)) (by decide)
        · rw [s_int]
          by_cases h2 : nI (iv a) = a
          · rw [if_pos (by rw [h2])]
            rw [if_pos ⟨h0, h1, h2⟩] at q
            exact ⟨by rw [S_len]; omega, _, int_of h1 h0 (by omega), q⟩
          · rw [if_neg (fun z => h2 (S_inj z))]
            rw [if_neg (fun z => h2 z.2.2)] at q
            exact q
      · rw [if_neg (fun z => h1 z.2.1)] at q
        rw [if_pos (by simpa using h1)]
        exact q
theorem w_lint {a : List Nat} {Q : Option Int → Nat → Prop} (ac : Ac a) (hl : a.length ≤ 470) (q : Q (lI a) c) : M.W (m__law_integer (S a, ())) c Q X := by
  have sl := sizeLine_eq
  have l0 : (S a).length = a.length := S_len a
  simp only [m__law_integer, b__law_integer, M.to_W, M.none_W, M.bind_W, M.ret_W, M.need_W, M.the_W, M.ifb_W, M.anyOf_W, M.still_W, M.roll_W, M.pick_W, M.thn_W, M.thn_nx, M.thn_rt, M.thn_bk, M.thn_ct, M.fin_W, M.fin_rt, M.finN_W, M.finN_rt, M.finN_nx, M.FK_nx, M.FK_ct, M.FK_bk, M.FK_rt, decide_eq_true_eq, if_true, if_false, Bool.false_eq_true, Bool.not_eq_true', decide_eq_false_iff_not, Bool.not_true, Bool.not_false, ite_not, k45, kD, kE]
  refine ⟨by omega, ?_⟩
  by_cases h : a.head? = some 45
  · rw [if_pos (head_cut.mpr h), show (1 : Int) = ((1 : Nat) : Int) by rfl, cut_from, List.drop_one]
    exact ⟨by omega, w_lintK (by unfold sg; rw [if_pos h]) ac hl q⟩
  · rw [if_neg (fun z => h (head_cut.mp z))]
    exact w_lintK (by unfold sg; rw [if_neg h]) ac hl q
theorem lay_ints (l : List Int) : (PyData.list (l.map .int)).canLay0 = true := by
  rw [PyData.canLay0]
  induction l with
  | nil => simp [PyData.canLayAll0]
  | cons x l ih => rw [List.map_cons, PyData.canLayAll0, ih]; simp [PyData.canLay0]
theorem ints_nil (l : List Int) : (PyData.list (l.map .int)).eqv (PyData.list (([] : List Int).map .int)) = l.isEmpty := by
  cases l <;> simp [PyData.eqv, PyData.eqvAll]
theorem sq_empty {r : Int} (h2 : 2 ≤ r) (h9 : r ≤ 999) : ((rng 2 32).filterMap fun i : Int => if r.fmod (i * i) = 0 then some i else none).isEmpty = isRootB r := by
  have iq : isq r.toNat ≤ 31 := isq_le (by omega)
  have io := (isq_ok r.toNat).2
  unfold isRootB
  rw [decide_eq_true h2, decide_eq_true h9, Bool.true_and, Bool.true_and, Bool.eq_iff_iff, List.isEmpty_iff, List.filterMap_eq_nil_iff, rng_eq, List.all_map, List.all_eq_true]
  constructor
  · intro h i hi
    have hi := List.mem_range.mp hi
    have := h (2 + (i : Int)) (List.mem_map.mpr ⟨i, List.mem_range.mpr (by omega), rfl⟩)
    by_cases z : r.fmod ((2 + (i : Int)) * (2 + (i : Int))) = 0
    · rw [if_pos z] at this; cases this
    · simp [z]
  · intro h x hx
    obtain ⟨i, hi, rfl⟩ := List.mem_map.mp hx
    have hi := List.mem_range.mp hi
    refine if_neg fun z => ?_
    by_cases k : i < isq r.toNat - 1
    · have := h i (List.mem_range.mpr k)
      simp [z] at this
    · have big : r < (2 + (i : Int)) * (2 + (i : Int)) := by
        have e : (isq r.toNat + 1) * (isq r.toNat + 1) ≤ (2 + i) * (2 + i) := Nat.mul_le_mul (by omega) (by omega)
        have e2 : ((2 + i : Nat) * (2 + i : Nat) : Nat) = (2 + (i : Int)) * (2 + (i : Int)) := by
          rw [Int.natCast_mul]; rfl
        rw [← e2]
        omega
      rw [Int.fmod_eq_emod_of_nonneg _ (by omega), Int.emod_eq_of_lt (by omega) big] at z
      omega
theorem w_fsq {r : Int} {Q : Bool → Nat → Prop} (q : Q (isRootB r) c) : M.W (m__law_free_of_squares (r, ())) c Q X := by
  simp only [m__law_free_of_squares, b__law_free_of_squares, M.to_W, M.none_W, M.bind_W, M.ret_W, M.need_W, M.the_W, M.ifb_W, M.anyOf_W, M.still_W, M.roll_W, M.pick_W, M.thn_W, M.thn_nx, M.thn_rt, M.thn_bk, M.thn_ct, M.fin_W, M.fin_rt, M.finN_W, M.finN_rt, M.finN_nx, M.FK_nx, M.FK_ct, M.FK_bk, M.FK_rt, decide_eq_true_eq, if_true, if_false, Bool.false_eq_true, Bool.not_eq_true', decide_eq_false_iff_not, Bool.not_true, Bool.not_false, ite_not]
  by_cases h2 : 2 ≤ r
  · rw [if_pos h2]
    by_cases h9 : r ≤ 999
    · rw [if_pos h9]
      refine ⟨by decide, by rw [rng_len]; decide, M.lcM_filter (g := fun i : Int => if r.fmod (i * i) = 0 then some i else none) (fun i hi Q q => ?_) ?_⟩
      · obtain ⟨j, hj⟩ := List.mem_iff_getElem?.mp hi
        obtain ⟨h1, rfl⟩ := rng_get hj
        have hj : j < 30 := h1
        show M.W _ _ _ _
        simp only [M.to_W, M.none_W, M.bind_W, M.ret_W, M.need_W, M.the_W, M.ifb_W, M.anyOf_W, M.still_W, M.roll_W, M.pick_W, M.thn_W, M.thn_nx, M.thn_rt, M.thn_bk, M.thn_ct, M.fin_W, M.fin_rt, M.finN_W, M.finN_rt, M.finN_nx, M.FK_nx, M.FK_ct, M.FK_bk, M.FK_rt, decide_eq_true_eq, if_true, if_false, Bool.false_eq_true, Bool.not_eq_true', decide_eq_false_iff_not, Bool.not_true, Bool.not_false, ite_not]
        have b2 : Bd 10 (2 + (j : Int)) := bd_sm (by omega) (by decide)
        have ne : (2 + (j : Int)) * (2 + (j : Int)) ≠ 0 := Int.mul_ne_zero (by omega) (by omega)
        refine ⟨b2.mulx b2 (by decide), ne, ?_⟩
        · by_cases z : r.fmod ((2 + (j : Int)) * (2 + (j : Int))) = 0
          · rw [if_pos z] at q; simpa [z] using q
          · rw [if_neg z] at q; simpa [z] using q
      · refine ⟨⟨lay_ints _, lay_ints _⟩, ?_⟩
        rw [ints_nil, sq_empty h2 h9]
        exact q
    · rw [if_neg h9]
      have : isRootB r = false := by unfold isRootB; simp [h9]
      rw [this] at q; exact q
  · rw [if_neg h2]
    have : isRootB r = false := by unfold isRootB; simp [h2]
    rw [this] at q; exact q
def SidesR (a f l : List Nat) : Prop := (f = [] ∧ l = a ∧ ∀ u s v, a = u ++ s :: v → u ≠ [] → s ≠ 43 ∧ s ≠ 45) ∨ ∃ s v, a = f ++ s :: v ∧ f ≠ [] ∧ (s = 43 ∨ s = 45) ∧ 43 ∉ v ∧ 45 ∉ v ∧ l = if s = 43 then v else 45 :: v
theorem last_hit {m : Nat} {p : Nat → Bool} {k : Nat} (hk : k < m) (h : p k = true) (hn : ∀ j, k < j → j < m → p j = false) : ∃ A : List Int, ((List.range m).map fun i : Nat => (1 : Int) + (i : Int)).filterMap (fun i => if p (i.toNat - 1) = true then some i else none) = A ++ [1 + (k : Int)] := by
  induction m with
  | zero => omega
  | succ m ih =>
    rw [List.range_succ, List.map_append, List.filterMap_append]
    have e : ((1 : Int) + (m : Int)).toNat - 1 = m := by omega
    by_cases z : k = m
    · subst z
      refine ⟨((List.range k).map fun i : Nat => (1 : Int) + (i : Int)).filterMap (fun i => if p (i.toNat - 1) = true then some i else none), ?_⟩
      congr 1
      simp [e, h]
    · obtain ⟨A, hA⟩ := ih (by omega) fun j h1 h2 => hn j h1 (by omega)
      refine ⟨A, ?_⟩
      rw [hA]
      have := hn m (by omega) (by omega)
      simp [e, this]
theorem last_of {a : List Nat} {p : Nat → Bool} : (∀ z ∈ a, p z = false) ∨ ∃ u s v, a = u ++ s :: v ∧ p s = true ∧ ∀ z ∈ v, p z = false := by
  induction a with
  | nil => exact .inl (fun z h => by cases h)
  | cons x a ih =>
    rcases ih with h | ⟨u, s, v, e, h1, h2⟩
    · by_cases hx : p x = true
      · exact .inr ⟨[], x, a, rfl, hx, h⟩
      · refine .inl fun z hz => ?_
        rcases List.mem_cons.mp hz with rfl | hz
        · simpa using hx
        · exact h z hz
    · exact .inr ⟨x :: u, s, v, by rw [e]; rfl, h1, h2⟩
def pm (z : Nat) : Bool := decide (z = 43) || decide (z = 45)
theorem in_pm (x : Nat) : inStr (S [x]) (S [43, 45]) = pm x := by
  unfold inStr pm
  rw [in_one, Bool.eq_iff_iff]
  simp
theorem fm_congr {α β : Type} {l : List α} {f g : α → Option β} (h : ∀ x ∈ l, f x = g x) : l.filterMap f = l.filterMap g := by
  induction l with
  | nil => rfl
  | cons x l ih => rw [List.filterMap_cons, List.filterMap_cons, h x List.mem_cons_self, ih fun y hy => h y (List.mem_cons_of_mem _ hy)]
theorem sides_of (a : List Nat) : (∃ f l, SidesR a f l ∧ f = [] ∧ l = a ∧ (rng 1 (a.length : Int)).filterMap (fun i => if pm (a.getD i.toNat 0) = true then some i else none) = []) ∨ ∃ f s v A, a = f ++ s :: v ∧ f ≠ [] ∧ pm s = true ∧ (∀ z ∈ v, pm z = false) ∧ (rng 1 (a.length : Int)).filterMap (fun i => if pm (a.getD i.toNat 0) = true then some i else none) = A ++ [(f.length : Int)] := by
  cases a with
  | nil =>
    refine .inl ⟨[], [], .inl ⟨rfl, rfl, fun u s v e => ?_⟩, rfl, rfl, by rw [rng_eq]; rfl⟩
    exact absurd e (by simp)
  | cons x a =>
    have e0 : rng 1 ((x :: a).length : Int) = (List.range a.length).map fun i : Nat => (1 : Int) + (i : Int) := by
      rw [rng_eq, List.length_cons, show ((((a.length + 1 : Nat) : Int)) - 1).toNat = a.length by omega]
    have ef : ∀ l : List Int, (∀ i ∈ l, 1 ≤ i) → l.filterMap (fun i => if pm ((x :: a).getD i.toNat 0) = true then some i else none) = l.filterMap (fun i => if (fun j => pm (a.getD j 0)) (i.toNat - 1) = true then some i else none) := fun l hl => by
      refine fm_congr fun i hi => ?_
      have := hl i hi
      rw [show i.toNat = (i.toNat - 1) + 1 by omega, List.getD_cons_succ]
      simp
    have h1 : ∀ i ∈ (List.range a.length).map fun i : Nat => (1 : Int) + (i : Int), 1 ≤ i := fun i hi => by
      obtain ⟨j, _, rfl⟩ := List.mem_map.mp hi
      omega
    rw [e0, ef _ h1]
    rcases last_of (a := a) (p := pm) with h | ⟨u, s, v, e, h2, h3⟩
    · refine .inl ⟨[], x :: a, .inl ⟨rfl, rfl, fun u s v e hu => ?_⟩, rfl, rfl, ?_⟩
      · cases u with
        | nil => exact absurd rfl hu
        | cons y u =>
          have e : x :: a = y :: (u ++ s :: v) := e
          injection e with _ e
          have := h s (by rw [e]; simp)
          simpa [pm] using this
      · rw [List.filterMap_eq_nil_iff]
        intro i hi
        obtain ⟨j, hj, rfl⟩ := List.mem_map.mp hi
        have hj := List.mem_range.mp hj
        refine if_neg fun z => ?_
        rw [show ((1 : Int) + (j : Int)).toNat - 1 = j by omega] at z
        have z : pm (a.getD j 0) = true := z
        rw [List.getD_eq_getElem?_getD, List.getElem?_eq_getElem hj] at z
        have z : pm a[j] = true := z
        rw [h _ (List.getElem_mem hj)] at z
        cases z
    · refine .inr ⟨x :: u, s, v, ?_⟩
      obtain ⟨A, hA⟩ := last_hit (m := a.length) (p := fun j => pm (a.getD j 0)) (k := u.length) (by rw [e]; simp) (by
        show pm (a.getD u.length 0) = true
        rw [e, List.getD_eq_getElem?_getD, List.getElem?_append_right (Nat.le_refl _)]
        simpa using h2) fun j h4 h5 => by
          show pm (a.getD j 0) = false
          rw [List.getD_eq_getElem?_getD, List.getElem?_eq_getElem h5]
          show pm a[j] = false
          have : a[j]? = v[j - u.length - 1]? := by
            rw [e, List.getElem?_append_right (by omega), show j - u.length = (j - u.length - 1) + 1 by omega, List.getElem?_cons_succ]; rfl
          rw [List.getElem?_eq_getElem h5] at this
          obtain ⟨h6, h7⟩ := List.getElem?_eq_some_iff.mp this.symm
          rw [← h7]
          exact h3 _ (List.getElem_mem h6)
      refine ⟨A, by rw [e]; rfl, List.cons_ne_nil _ _, h2, h3, ?_⟩
      rw [hA, List.length_cons]
      congr 2
      omega
theorem atI_nat {α : Type} {xs : List α} {i : Nat} (h : i < xs.length) : atI xs (i : Int) = some xs[i] := by
  unfold atI ixN
  rw [if_pos (by omega), if_pos (by omega)]
  show xs[(i : Int).toNat]? = _
  rw [show (i : Int).toNat = i by omega, List.getElem?_eq_getElem h]
theorem w_sides {a b : List Nat} {Q : Str × Str × Str × Unit → Nat → Prop} (hl : a.length + b.length ≤ 470) (ha : 114 ∉ a) (hb : 114 ∉ b) (q : ∀ f l, SidesR a f l → Q (S f, S l, S b, ()) c) : M.W (m__law_sides (S (a ++ 114 :: b), ())) c Q X := by
  have sl := sizeLine_eq
  have l0 : (S a).length = a.length := S_len a
  simp only [m__law_sides, b__law_sides, M.to_W, M.none_W, M.bind_W, M.ret_W, M.need_W, M.the_W, M.ifb_W, M.anyOf_W, M.still_W, M.roll_W, M.pick_W, M.thn_W, M.thn_nx, M.thn_rt, M.thn_bk, M.thn_ct, M.fin_W, M.fin_rt, M.finN_W, M.finN_rt, M.finN_nx, M.FK_nx, M.FK_ct, M.FK_bk, M.FK_rt, decide_eq_true_eq, if_true, if_false, Bool.false_eq_true, Bool.not_eq_true', decide_eq_false_iff_not, Bool.not_true, Bool.not_false, ite_not, k114, kPM, kE, k43]
  have es : Txt.split (S (a ++ 114 :: b)) (S [114]) = [S a, S b] := by
    rw [split_S (List.cons_ne_nil _ _) (by decide)]
    have e := spl_join (c := 114) (sep := []) (parts := [a, b]) (by simp) (fun p hp => by
      rcases List.mem_cons.mp hp with rfl | hp
      · exact ha
      · rcases List.mem_cons.mp hp with rfl | hp
        · exact hb
        · cases hp)
    rw [show a ++ 114 :: b = TL.joinL [114] [a, b] from rfl, e]; rfl
  rw [es]
  refine ⟨⟨rfl, by rw [S_len]; simp only [List.length_append, List.length_cons]; omega⟩, (S a, S b, ()), rfl, ?_⟩
  show (S a).length ≤ sizeLine ∧ _
  rw [l0]
  refine ⟨by omega, ⟨by decide, by decide, by omega, by omega⟩, by rw [rng_len]; omega, M.lcM_filter (g := fun i : Int => if pm (a.getD i.toNat 0) = true then some i else none) (fun i hi Q q => ?_) ?_⟩
  · obtain ⟨j, hj⟩ := List.mem_iff_getElem?.mp hi
    obtain ⟨h1, rfl⟩ := rng_get hj
    have hj : 1 + j < a.length := by omega
    show M.W _ _ _ _
    simp only [M.to_W, M.none_W, M.bind_W, M.ret_W, M.need_W, M.the_W, M.ifb_W, M.anyOf_W, M.still_W, M.roll_W, M.pick_W, M.thn_W, M.thn_nx, M.thn_rt, M.thn_bk, M.thn_ct, M.fin_W, M.fin_rt, M.finN_W, M.finN_rt, M.finN_nx, M.FK_nx, M.FK_ct, M.FK_bk, M.FK_rt, decide_eq_true_eq, if_true, if_false, Bool.false_eq_true, Bool.not_eq_true', decide_eq_false_iff_not, Bool.not_true, Bool.not_false, ite_not]
    refine ⟨by omega, a[1 + j], ?_, ?_⟩
    · rw [show (1 : Int) + (j : Int) = ((1 + j : Nat) : Int) by omega]
      exact atI_nat hj
    · rw [show (1 : Int) + (j : Int) = ((1 + j : Nat) : Int) by omega] at q ⊢
      have e : a.getD (1 + j) 0 = a[1 + j] := by rw [List.getD_eq_getElem?_getD, List.getElem?_eq_getElem hj]; rfl
      rw [show (((1 + j : Nat) : Int)).toNat = 1 + j by omega, e] at q
      rw [show (({ cps := #[a[1 + j]] } : Str)) = S [a[1 + j]] from rfl, in_pm]
      cases z : pm a[1 + j] with
      | true => rw [z] at q; simpa using q
      | false => rw [z] at q; simpa using q
  · refine ⟨⟨lay_ints _, lay_ints _⟩, ?_⟩
    rw [ints_nil]
    rcases sides_of a with ⟨f, l, h1, rfl, rfl, e⟩ | ⟨f, s, v, A, ea, h1, h2, h3, e⟩
    · rw [e]
      rw [if_pos (show ([] : List Int).isEmpty = true from rfl)]
      exact q _ _ h1
    · rw [e, if_neg (by simp)]
      have hf : f.length < a.length := by rw [ea]; simp
      have es : a[f.length] = s := by
        have : a[f.length]? = some s := by rw [ea, List.getElem?_append_right (Nat.le_refl _)]; simp
        rw [List.getElem?_eq_getElem hf] at this
        exact Option.some.inj this
      refine ⟨_, atI_last _ _, by omega, by omega, a[f.length], atI_nat hf, ?_⟩
      rw [es]
      have e1 : a.take f.length = f := by rw [ea]; simp
      have e2 : a.drop (f.length + 1) = v := by rw [ea]; simp
      have e3 : a.drop f.length = s :: v := by rw [ea]; simp
      have vn : 43 ∉ v ∧ 45 ∉ v := ⟨fun m => by have := h3 _ m; simp [pm] at this, fun m => by have := h3 _ m; simp [pm] at this⟩
      have sp : s = 43 ∨ s = 45 := by simpa [pm] using h2
      by_cases h43 : s = 43
      · rw [if_pos (by rw [h43])]
        refine ⟨by omega, ?_⟩
        rw [show ((f.length : Int) + 1) = ((f.length + 1 : Nat) : Int) by omega, cut_to, cut_from, e1, e2]
        exact q f v (.inr ⟨s, v, ea, h1, sp, vn.1, vn.2, (if_pos h43).symm⟩)
      · rw [if_neg (fun z => h43 (by have z : S [s] = S [43] := z; simpa using S_inj z))]
        refine ⟨by omega, ?_⟩
        rw [cut_to, cut_from, e1, e3]
        have e45 := sp.resolve_left h43
        subst e45
        exact q f _ (.inr ⟨45, v, ea, h1, sp, vn.1, vn.2, (if_neg (by decide)).symm⟩)
theorem w_ltext {g : Nm} {Q : Str → Nat → Prop} (bt : Bd 1900 g.t) (bp : Bd 1900 g.p) (br : Bd 10 g.r) (bb : Bd 1900 g.b) (q : Q (S (cL g)) c) : M.W (m__law_text ((g.t, g.p, g.r, g.b, ()), ())) c Q X := by
  have sl := sizeLine_eq
  have it : ∀ i : Int, Bd 1900 i → (nI i).length ≤ 9001 := fun i h => by
    have e := int_text_length_le (k := 9000) (by decide) (bd_log (h.mono (show 1900 ≤ 9000 by decide)) (by decide))
    have l : (Str.ofString (toString i)).length ≤ 9001 := by rw [PySem.ofString_length]; exact e
    rw [s_int, S_len] at l
    exact l
  have lg : ∀ i : Int, Bd 1900 i → i.natAbs.log2 < 1920 := fun i h => Nat.lt_trans (bd_log h (by decide)) (by decide)
  have l1 := it _ bt
  have l2 := it _ bp
  have l3 := it _ (br.mono (by decide))
  have l4 := it _ bb
  have g1 := lg _ bt
  have g2 := lg _ bp
  have g3 := lg _ (br.mono (by decide))
  have g4 := lg _ bb
  have key : ∀ y, y = cL g → Q (S y) c := fun y e => e ▸ q
  clear q
  simp only [m__law_text, b__law_text, M.to_W, M.none_W, M.bind_W, M.ret_W, M.need_W, M.the_W, M.ifb_W, M.anyOf_W, M.still_W, M.roll_W, M.pick_W, M.thn_W, M.thn_nx, M.thn_rt, M.thn_bk, M.thn_ct, M.fin_W, M.fin_rt, M.finN_W, M.finN_rt, M.finN_nx, M.FK_nx, M.FK_ct, M.FK_bk, M.FK_rt, decide_eq_true_eq, if_true, if_false, Bool.false_eq_true, Bool.not_eq_true', decide_eq_false_iff_not, Bool.not_true, Bool.not_false, ite_not, k47, k114, k40, k41, k43, kE, s_int, S_cat, S_len, List.length_append, List.length_cons, List.length_nil]
  have b1 : g.b = 1 → unL g.b = [] := fun h => if_pos h
  have b2 : g.b ≠ 1 → unL g.b = 47 :: nI g.b := fun h => if_neg h
  unfold cL whL at key
  by_cases h1 : g.b = 1
  · simp only [if_pos h1, b1 h1] at key ⊢
    by_cases h2 : g.p = 0
    · simp only [if_pos h2] at key ⊢
      repeat (refine ⟨by omega, ?_⟩)
      exact key _ (by simp)
    · simp only [if_neg h2] at key ⊢
      repeat (refine ⟨by omega, ?_⟩)
      by_cases h3 : g.t = 0
      · simp only [if_pos h3] at key ⊢
        repeat (refine ⟨by omega, ?_⟩)
        exact key _ (by simp)
      · simp only [if_neg h3] at key ⊢
        repeat (refine ⟨by omega, ?_⟩)
        by_cases h4 : 0 < g.p
        · simp only [if_pos h4] at key ⊢
          repeat (refine ⟨by omega, ?_⟩)
          exact key _ (by simp)
        · simp only [if_neg h4] at key ⊢
          repeat (refine ⟨by omega, ?_⟩)
          exact key _ (by simp)
  · simp only [if_neg h1, b2 h1] at key ⊢
    repeat (refine ⟨by omega, ?_⟩)
    by_cases h2 : g.p = 0
    · simp only [if_pos h2] at key ⊢
      repeat (refine ⟨by omega, ?_⟩)
      exact key _ (by simp)
    · simp only [if_neg h2] at key ⊢
      repeat (refine ⟨by omega, ?_⟩)
      by_cases h3 : g.t = 0
      · simp only [if_pos h3] at key ⊢
        repeat (refine ⟨by omega, ?_⟩)
        exact key _ (by simp)
      · simp only [if_neg h3] at key ⊢
        repeat (refine ⟨by omega, ?_⟩)
        by_cases h4 : 0 < g.p
        · simp only [if_pos h4] at key ⊢
          repeat (refine ⟨by omega, ?_⟩)
          exact key _ (by simp)
        · simp only [if_neg h4] at key ⊢
          repeat (refine ⟨by omega, ?_⟩)
          exact key _ (by simp)
end
section
variable {c : Nat} {X : Er → Prop}
theorem thn_gen {Γ Γ' Δ β : Type} {A : M (Ct Γ Δ β)} {k : Γ → M (Ct Γ' Δ β)} {Q : Ct Γ' Δ β → Nat → Prop} (h : ∀ k', (∀ ρ, k' ρ = k ρ) → M.W (M.thn A k') c Q X) : M.W (M.thn A k) c Q X := h k fun _ => rfl
def SL (x y : List Nat) (ob : Option Int) : Prop := (47 ∉ x ∧ y = x ∧ ob = some 1) ∨ ∃ u, x = y ++ 47 :: u ∧ 47 ∉ y ∧ 47 ∉ u ∧ ob = lI u
def Many (x : List Nat) : Prop := (∃ y u, x = y ++ 47 :: u ∧ 47 ∉ y ∧ 47 ∈ u) ∨ ∃ y, 47 ∉ y ∧ (y = x ∨ ∃ u, x = y ++ 47 :: u) ∧ ∃ p w, y = p ++ 114 :: w ∧ 114 ∉ p ∧ 114 ∈ w
def LT (z : List Nat) (ot op or : Option Int) (lt : Bool) : Prop := (lt = false ∧ 114 ∉ z ∧ ot = lI z ∧ op = some 0 ∧ or = some 0) ∨ (lt = true ∧ ∃ ah bh f l, z = ah ++ 114 :: bh ∧ 114 ∉ ah ∧ or = lI bh ∧ SidesR ah f l ∧ ot = (if f = [] then some 0 else lI f) ∧ op = lI l)
def finL (x : List Nat) (ob ot op or : Option Int) (lt : Bool) : Option Nm := match ob, ot, op, or with
  | some b, some t, some p, some r => if b < 1 then none else if lt = true ∧ isRootB r = false then none else if cL (mkNm t p r b) = x then some (mkNm t p r b) else none
  | _, _, _, _ => none
def TR (x : List Nat) (o : Option Nm) : Prop := (o = none ∧ Many x) ∨ ∃ y z ob ot op or lt, SL x y ob ∧ UnB y z ∧ LT z ot op or lt ∧ o = finL x ob ot op or lt
def oD (o : Option Nm) : PyData := match o with | none => .none | some g => fD g
theorem spl_ne {s : Nat} (u : List Nat) : ∃ p r, TL.spl [s] 0 [] u = p :: r := by
  by_cases h : s ∈ u
  · obtain ⟨p, w, rfl, hp⟩ := first_of h
    exact ⟨_, _, spl_part1 (S := []) (rest := w) (acc := []) hp⟩
  · exact ⟨_, _, spl_last1 (S := []) (acc := []) h⟩
theorem split3 (x : List Nat) : (47 ∉ x ∧ Txt.split (S x) (S [47]) = [S x]) ∨ (∃ y u, x = y ++ 47 :: u ∧ 47 ∉ y ∧ 47 ∉ u ∧ Txt.split (S x) (S [47]) = [S y, S u]) ∨ (∃ y u, x = y ++ 47 :: u ∧ 47 ∉ y ∧ 47 ∈ u ∧ 2 < (Txt.split (S x) (S [47])).length) := by
  rw [split_S (List.cons_ne_nil _ _) (by decide)]
  by_cases h : 47 ∈ x
  · obtain ⟨y, u, rfl, hy⟩ := first_of h
    have e : TL.spl [47] 0 [] (y ++ 47 :: u) = y :: TL.spl [47] 0 [] u := spl_part1 (S := []) (rest := u) (acc := []) hy
    by_cases hu : 47 ∈ u
    · refine .inr (.inr ⟨y, u, rfl, hy, hu, ?_⟩)
      obtain ⟨p, w, rfl, hp⟩ := first_of hu
      have e2 : TL.spl [47] 0 [] (p ++ 47 :: w) = p :: TL.spl [47] 0 [] w := spl_part1 (S := []) (rest := w) (acc := []) hp
      obtain ⟨a, b, e3⟩ := spl_ne (s := 47) w
      rw [e, e2, e3]
      simp
    · refine .inr (.inl ⟨y, u, rfl, hy, hu, ?_⟩)
      have e2 : TL.spl [47] 0 [] u = [u] := spl_last1 (S := []) (acc := []) hu
      rw [e, e2]; rfl
  · refine .inl ⟨h, ?_⟩
    have e2 : TL.spl [47] 0 [] x = [x] := spl_last1 (S := []) (acc := []) h
    rw [e2]; rfl
theorem thn_2 {Γ Γ' Γ2 Δ β : Type} {A : M (Ct Γ Δ β)} {B : Γ → M (Ct Γ' Δ β)} {k : Γ' → M (Ct Γ2 Δ β)} {Q : Ct Γ2 Δ β → Nat → Prop} (h : ∀ k', (∀ ρ, k' ρ = k ρ) → M.W (M.thn A fun ρ => M.thn (B ρ) k') c Q X) : M.W (M.thn A fun ρ => M.thn (B ρ) k) c Q X := h k fun _ => rfl
theorem thn_3 {Γ Γ' Γ2 Γ3 Δ β : Type} {A : M (Ct Γ Δ β)} {B : Γ → M (Ct Γ' Δ β)} {C : Γ' → M (Ct Γ2 Δ β)} {k : Γ2 → M (Ct Γ3 Δ β)} {Q : Ct Γ3 Δ β → Nat → Prop} (h : ∀ k', (∀ ρ, k' ρ = k ρ) → M.W (M.thn A fun ρ => M.thn (B ρ) fun ρ => M.thn (C ρ) k') c Q X) : M.W (M.thn A fun ρ => M.thn (B ρ) fun ρ => M.thn (C ρ) k) c Q X := h k fun _ => rfl
theorem thn_5 {Γ Γ' Γ2 Γ3 Γ4 Γ5 Δ β : Type} {A : M (Ct Γ Δ β)} {B : Γ → M (Ct Γ' Δ β)} {C : Γ' → M (Ct Γ2 Δ β)} {D : Γ2 → M (Ct Γ3 Δ β)} {E : Γ3 → M (Ct Γ4 Δ β)} {k : Γ4 → M (Ct Γ5 Δ β)} {Q : Ct Γ5 Δ β → Nat → Prop} (h : ∀ k', (∀ ρ, k' ρ = k ρ) → M.W (M.thn A fun ρ => M.thn (B ρ) fun ρ => M.thn (C ρ) fun ρ => M.thn (D ρ) fun ρ => M.thn (E ρ) k') c Q X) : M.W (M.thn A fun ρ => M.thn (B ρ) fun ρ => M.thn (C ρ) fun ρ => M.thn (D ρ) fun ρ => M.thn (E ρ) k) c Q X := h k fun _ => rfl
theorem nones (ob ot op or : Option Int) : ((List.map (dOpt PyData.int) [ob, ot, op, or]).any fun z => z.eqv (dOpt PyData.int none)) = (ob.isNone || ot.isNone || op.isNone || or.isNone) := by
  cases ob <;> cases ot <;> cases op <;> cases or <;> simp [dOpt, PyData.eqv]
theorem lay_opt (o : Option Int) : (dOpt PyData.int o).canLay0 = true := by
  cases o <;> simp [dOpt, PyData.canLay0]
theorem lI_bits {a : List Nat} {i : Int} (hl : a.length ≤ 470) (h : lI a = some i) : Bd 1900 i := by
  unfold lI at h
  split at h
  · next z =>
    cases h
    exact iv_bits (k := 470) z.2.1 (Nat.le_trans (sg_len a) hl) (by decide)
  · cases h
theorem lI_zero : lI [48] = some 0 := by decide +kernel
theorem sides_len {a f l : List Nat} (h : SidesR a f l) : f.length ≤ a.length ∧ l.length ≤ a.length := by
  rcases h with ⟨rfl, rfl, _⟩ | ⟨s, v, rfl, _, _, _, _, rfl⟩
  · simp
  · simp only [List.length_append, List.length_cons]
    split <;> simp <;> omega
theorem sides_ac {a f l : List Nat} (h : SidesR a f l) (ac : Ac a) : Ac f ∧ Ac l := by
  rcases h with ⟨rfl, rfl, _⟩ | ⟨s, v, rfl, _, _, _, _, rfl⟩
  · exact ⟨fun z h => (by cases h), ac⟩
  · refine ⟨fun z h => ac z (List.mem_append_left _ h), fun z h => ?_⟩
    split at h
    · exact ac z (List.mem_append_right _ (List.mem_cons_of_mem _ h))
    · rcases List.mem_cons.mp h with rfl | h
      · decide
      · exact ac z (List.mem_append_right _ (List.mem_cons_of_mem _ h))
theorem lt_bits {z : List Nat} {ot op or : Option Int} {lt : Bool} (hl : z.length ≤ 470) (h : LT z ot op or lt) : (∀ i, ot = some i → Bd 1900 i) ∧ (∀ i, op = some i → Bd 1900 i) ∧ (lt = false → op = some 0) := by
  rcases h with ⟨_, _, rfl, rfl, _⟩ | ⟨rfl, ah, bh, f, l, rfl, _, _, h, rfl, rfl⟩
  · exact ⟨fun i e => lI_bits hl e, fun i e => by cases e; exact bd_sm (by decide) (by decide), fun _ => rfl⟩
  · have sl := sides_len h
    simp only [List.length_append, List.length_cons] at hl
    refine ⟨fun i e => ?_, fun i e => lI_bits (by omega) e, fun e => by cases e⟩
    split at e
    · cases e; exact bd_sm (by decide) (by decide)
    · exact lI_bits (by omega) e
theorem in_114 (z : List Nat) : inStr (S [114]) (S z) = decide (114 ∈ z) := by
  unfold inStr
  rw [in_one]
theorem unb_len {y z : List Nat} (h : UnB y z) : z.length ≤ y.length := by
  rcases h with ⟨rfl, _⟩ | rfl
  · exact Nat.le_refl _
  · simp; omega
theorem unb_sub {y z : List Nat} (h : UnB y z) {s : Nat} (m : s ∈ z) : s ∈ y := by
  rcases h with ⟨rfl, _⟩ | rfl
  · exact m
  · simp [m]
theorem cnt_nn (k : Nat) : ∀ a : List Nat, 0 ≤ cnt k a
  | [] => by rw [cnt_nil]; omega
  | n :: a => by
    have := cnt_nn k a
    rw [cnt_cons]
    split <;> omega
theorem cnt_114 (y : List Nat) : ((∀ p w, y = p ++ 114 :: w → 114 ∉ p → 114 ∉ w) ∧ ¬ 1 < Txt.count (S y) (S [114])) ∨ ((∃ p w, y = p ++ 114 :: w ∧ 114 ∉ p ∧ 114 ∈ w) ∧ 1 < Txt.count (S y) (S [114])) := by
  have e : Txt.count (S y) (S [114]) = cnt 114 y := by
    have := count_cnt (S y) 114
    rw [show (S y).cps.toList = y by simp [S]] at this
    exact this
  rw [e]
  by_cases h : 114 ∈ y
  · obtain ⟨p, w, rfl, hp⟩ := first_of h
    rw [cnt_append, cnt_none _ p hp, cnt_cons, if_pos rfl]
    by_cases hw : 114 ∈ w
    · refine .inr ⟨⟨p, w, rfl, hp, hw⟩, ?_⟩
      obtain ⟨p', w', rfl, hp'⟩ := first_of hw
      rw [cnt_append, cnt_none _ p' hp', cnt_cons, if_pos rfl]
      have := cnt_nn 114 w'
      omega
    · refine .inl ⟨fun p' w' e h' => ?_, ?_⟩
      · obtain ⟨_, rfl⟩ := first_uniq e hp h'
        exact hw
      · rw [cnt_none _ w hw]; omega
  · refine .inl ⟨fun p w e _ => absurd (by rw [e]; simp) h, ?_⟩
    rw [cnt_none _ y h]; omega
theorem w_told {x : List Nat} {Q : PyData → Nat → Prop} (ac : Ac x) (hl : x.length ≤ 470) (q : ∀ o, TR x o → Q (oD o) c) : M.W (m__law_told (S x, ())) c Q X := by
  have sl := sizeLine_eq
  have L : ∀ a : List Nat, (S a).length = a.length := S_len
  unfold m__law_told b__law_told
  rw [M.fin_W]
  refine thn_3 fun k3 h3 => ?_
  have tail : ∀ y ob ps, SL x y ob → (∀ p w, y = p ++ 114 :: w → 114 ∉ p → 114 ∉ w) → M.W (k3 (S x, ps, S y, ob, (), (), (), (), (), (), ())) c (fun k d => M.W (M.finK k) d Q X) X := fun y ob ps hs hR => by
    rw [h3]
    have ly : y.length ≤ x.length ∧ Ac y ∧ ∀ i, ob = some i → Bd 1900 i := by
      rcases hs with ⟨_, rfl, rfl⟩ | ⟨u, rfl, _, _, rfl⟩
      · exact ⟨Nat.le_refl _, ac, fun i e => by cases e; exact bd_sm (by decide) (by decide)⟩
      · refine ⟨by simp, fun s m => ac s (List.mem_append_left _ m), fun i e => lI_bits (by simp only [List.length_append, List.length_cons] at hl; omega) e⟩
    obtain ⟨ly, acy, bdb⟩ := ly
    refine thn_2 fun k6 h6 => ?_
    have tail2 : ∀ z b, UnB y z → M.W (k6 (S x, ps, S z, ob, b, (), (), (), (), (), ())) c (fun k d => M.W (M.finK k) d Q X) X := fun z b hz => by
      rw [h6]
      have lz := unb_len hz
      have acz : Ac z := fun s m => acy s (unb_sub hz m)
      refine thn_5 fun k11 h11 => ?_
      have tail3 : ∀ sd ot op or lt, inStr (S [114]) (S z) = lt → LT z ot op or lt → M.W (k11 (S x, ps, S z, ob, b, sd, ot, op, or, (), ())) c (fun k d => M.W (M.finK k) d Q X) X := fun sd ot op or lt hi hL => by
        rw [h11]
        have tr := q _ (.inr ⟨y, z, ob, ot, op, or, lt, hs, hz, hL, rfl⟩)
        obtain ⟨bdt, bdp, lf⟩ := lt_bits (by omega) hL
        refine thn_gen fun k12 h12 => ?_
        simp only [M.to_W, M.none_W, M.bind_W, M.ret_W, M.need_W, M.the_W, M.ifb_W, M.anyOf_W, M.still_W, M.roll_W, M.pick_W, M.thn_W, M.thn_nx, M.thn_rt, M.thn_bk, M.thn_ct, M.fin_W, M.fin_rt, M.finN_W, M.finN_rt, M.finN_nx, M.FK_nx, M.FK_ct, M.FK_bk, M.FK_rt, decide_eq_true_eq, if_true, if_false, Bool.false_eq_true, Bool.not_eq_true', decide_eq_false_iff_not, Bool.not_true, Bool.not_false, ite_not, k45, k43, kE, k47, k40, k41, k114, k48, hi]
        rw [nones]
        refine ⟨⟨lay_opt _, ?_⟩, ?_⟩
        · rw [PyData.canLay0]
          simp [PyData.canLayAll0, lay_opt]
        · unfold finL at tr
          cases ob with
          | none => exact tr
          | some bb =>
          cases ot with
          | none => exact tr
          | some t =>
          cases op with
          | none => exact tr
          | some pp =>
          cases or with
          | none => exact tr
          | some r =>
          rw [if_neg (by simp)]
          refine ⟨bb, rfl, ?_⟩
          dsimp only at tr
          by_cases hb : bb < 1
          · rw [if_pos hb]
            rw [if_pos hb] at tr
            exact tr
          · rw [if_neg hb]
            rw [if_neg hb] at tr
            have fin : (lt = true → isRootB r = true) → M.W (k12 (S x, ps, S z, some bb, b, sd, some t, some pp, some r, (), ())) c (fun k d => M.W (M.finK k) d Q X) X := fun hr => by
              rw [if_neg (fun z => by have := hr z.1; rw [z.2] at this; cases this)] at tr
              have tb := bdt _ rfl
              have pb := bdp _ rfl
              have bb2 := bdb _ rfl
              have g := mk_gd (t := t) (p := pp) (r := r) (b := bb) (k := 1900) (by decide) (by omega) tb pb bb2 fun hp => by
                cases hlt : lt with
                | true =>
                  obtain ⟨h1, h2, _⟩ := root_parts (hr hlt)
                  omega
                | false =>
                  have := lf hlt
                  exact absurd (Option.some.inj this) hp
              obtain ⟨_, gt, gp, gb, gr, _⟩ := g
              rw [h12]
              simp only [M.to_W, M.none_W, M.bind_W, M.ret_W, M.need_W, M.the_W, M.ifb_W, M.anyOf_W, M.still_W, M.roll_W, M.pick_W, M.thn_W, M.thn_nx, M.thn_rt, M.thn_bk, M.thn_ct, M.fin_W, M.fin_rt, M.finN_W, M.finN_rt, M.finN_nx, M.FK_nx, M.FK_ct, M.FK_bk, M.FK_rt, decide_eq_true_eq, if_true, if_false, Bool.false_eq_true, Bool.not_eq_true', decide_eq_false_iff_not, Bool.not_true, Bool.not_false, ite_not]
              refine ⟨t, rfl, pp, rfl, r, rfl, bb, rfl, w_least (by omega) (tb.mono (by decide)) (pb.mono (by decide)) (bb2.mono (by decide)) (w_ltext gt gp gr gb ?_)⟩
              by_cases he : cL (mkNm t pp r bb) = x
              · rw [if_pos he] at tr
                rw [if_pos (by rw [he])]
                exact tr
              · rw [if_neg he] at tr
                rw [if_neg (fun z => he (S_inj z))]
                exact tr
            cases hlt : lt with
            | false =>
              rw [if_neg (by decide)]
              subst hlt
              exact fin (fun z => by cases z)
            | true =>
              rw [if_pos rfl]
              refine ⟨r, rfl, w_fsq ?_⟩
              subst hlt
              cases hr : isRootB r with
              | true =>
                rw [if_neg (by decide)]
                exact fin fun _ => hr
              | false =>
                rw [if_pos rfl]
                rw [if_pos ⟨rfl, hr⟩] at tr
                exact tr
      by_cases hr : 114 ∈ z
      · obtain ⟨ah, bh, e, hah⟩ := first_of hr
        have hbh : 114 ∉ bh := by
          rcases hz with ⟨rfl, _⟩ | ey
          · exact hR _ _ e hah
          · have := hR (40 :: ah) (bh ++ [41]) (by rw [ey, e]; simp) (by simp [hah])
            exact fun m => this (by simp [m])
        have hi : inStr (S [114]) (S z) = true := by rw [in_114]; exact decide_eq_true hr
        simp only [M.to_W, M.none_W, M.bind_W, M.ret_W, M.need_W, M.the_W, M.ifb_W, M.anyOf_W, M.still_W, M.roll_W, M.pick_W, M.thn_W, M.thn_nx, M.thn_rt, M.thn_bk, M.thn_ct, M.fin_W, M.fin_rt, M.finN_W, M.finN_rt, M.finN_nx, M.FK_nx, M.FK_ct, M.FK_bk, M.FK_rt, decide_eq_true_eq, if_true, if_false, Bool.false_eq_true, Bool.not_eq_true', decide_eq_false_iff_not, Bool.not_true, Bool.not_false, ite_not, k45, k43, kE, k47, k40, k41, k114, k48, hi]
        subst e
        simp only [List.length_append, List.length_cons] at lz
        refine w_sides (by omega) hah hbh fun f l hfl => ?_
        have ls := sides_len hfl
        have acs := sides_ac hfl fun s m => acz s (List.mem_append_left _ m)
        have acb : Ac bh := fun s m => acz s (List.mem_append_right _ (List.mem_cons_of_mem _ m))
        by_cases hf : f = []
        · subst hf
          exact (if_pos rfl).mpr (w_lint acs.2 (by omega) (w_lint acb (by omega) (tail3 _ _ _ _ true hi (.inr ⟨rfl, ah, bh, [], l, rfl, hah, rfl, hfl, (if_pos rfl).symm, rfl⟩))))
        · exact (if_neg (fun z => hf (S_inj z))).mpr (w_lint acs.1 (by omega) (w_lint acs.2 (by omega) (w_lint acb (by omega) (tail3 _ _ _ _ true hi (.inr ⟨rfl, ah, bh, f, l, rfl, hah, rfl, hfl, (if_neg hf).symm, rfl⟩)))))
      · have hi : inStr (S [114]) (S z) = false := by rw [in_114]; exact decide_eq_false hr
        simp only [M.to_W, M.none_W, M.bind_W, M.ret_W, M.need_W, M.the_W, M.ifb_W, M.anyOf_W, M.still_W, M.roll_W, M.pick_W, M.thn_W, M.thn_nx, M.thn_rt, M.thn_bk, M.thn_ct, M.fin_W, M.fin_rt, M.finN_W, M.finN_rt, M.finN_nx, M.FK_nx, M.FK_ct, M.FK_bk, M.FK_rt, decide_eq_true_eq, if_true, if_false, Bool.false_eq_true, Bool.not_eq_true', decide_eq_false_iff_not, Bool.not_true, Bool.not_false, ite_not, k45, k43, kE, k47, k40, k41, k114, k48, hi]
        have a48 : Ac [48] := fun s m => by
          have : s = 48 := by simpa using m
          subst this; decide
        exact w_lint acz (by omega) (w_lint a48 (by decide) (w_lint a48 (by decide) (tail3 _ _ _ _ false hi (.inl ⟨rfl, hr, rfl, lI_zero, lI_zero⟩))))
    rcases unb_cases y with ⟨z, hz, lz, hA, hB, hC⟩ | ⟨hz, hA⟩ | ⟨hz, hA, hB⟩
    · simp only [M.to_W, M.none_W, M.bind_W, M.ret_W, M.need_W, M.the_W, M.ifb_W, M.anyOf_W, M.still_W, M.roll_W, M.pick_W, M.thn_W, M.thn_nx, M.thn_rt, M.thn_bk, M.thn_ct, M.fin_W, M.fin_rt, M.finN_W, M.finN_rt, M.finN_nx, M.FK_nx, M.FK_ct, M.FK_bk, M.FK_rt, decide_eq_true_eq, if_true, if_false, Bool.false_eq_true, Bool.not_eq_true', decide_eq_false_iff_not, Bool.not_true, Bool.not_false, ite_not, k45, k43, kE, k47, k40, k41, k114, k48, hA, hB, hC, if_true, if_false]
      exact ⟨by rw [L]; omega, by rw [L]; omega, by rw [L]; omega, tail2 z _ hz⟩
    · simp only [M.to_W, M.none_W, M.bind_W, M.ret_W, M.need_W, M.the_W, M.ifb_W, M.anyOf_W, M.still_W, M.roll_W, M.pick_W, M.thn_W, M.thn_nx, M.thn_rt, M.thn_bk, M.thn_ct, M.fin_W, M.fin_rt, M.finN_W, M.finN_rt, M.finN_nx, M.FK_nx, M.FK_ct, M.FK_bk, M.FK_rt, decide_eq_true_eq, if_true, if_false, Bool.false_eq_true, Bool.not_eq_true', decide_eq_false_iff_not, Bool.not_true, Bool.not_false, ite_not, k45, k43, kE, k47, k40, k41, k114, k48, hA, if_true, if_false]
      exact ⟨by rw [L]; omega, tail2 _ _ hz⟩
    · simp only [M.to_W, M.none_W, M.bind_W, M.ret_W, M.need_W, M.the_W, M.ifb_W, M.anyOf_W, M.still_W, M.roll_W, M.pick_W, M.thn_W, M.thn_nx, M.thn_rt, M.thn_bk, M.thn_ct, M.fin_W, M.fin_rt, M.finN_W, M.finN_rt, M.finN_nx, M.FK_nx, M.FK_ct, M.FK_bk, M.FK_rt, decide_eq_true_eq, if_true, if_false, Bool.false_eq_true, Bool.not_eq_true', decide_eq_false_iff_not, Bool.not_true, Bool.not_false, ite_not, k45, k43, kE, k47, k40, k41, k114, k48, hA, hB, if_true, if_false]
      exact ⟨by rw [L]; omega, by rw [L]; omega, tail2 _ _ hz⟩
  have many : Many x → Q PyData.none c := fun h => q none (.inl ⟨rfl, h⟩)
  rcases split3 x with ⟨h, e⟩ | ⟨y, u, ex, hy, hu, e⟩ | ⟨y, u, ex, hy, hu, e⟩
  · rcases cnt_114 x with ⟨g, cn⟩ | ⟨g, cn⟩
    · simp only [M.to_W, M.none_W, M.bind_W, M.ret_W, M.need_W, M.the_W, M.ifb_W, M.anyOf_W, M.still_W, M.roll_W, M.pick_W, M.thn_W, M.thn_nx, M.thn_rt, M.thn_bk, M.thn_ct, M.fin_W, M.fin_rt, M.finN_W, M.finN_rt, M.finN_nx, M.FK_nx, M.FK_ct, M.FK_bk, M.FK_rt, decide_eq_true_eq, if_true, if_false, Bool.false_eq_true, Bool.not_eq_true', decide_eq_false_iff_not, Bool.not_true, Bool.not_false, ite_not, k45, k43, kE, k47, k40, k41, k114, k48, e]
      refine ⟨⟨by rw [L]; rfl, by rw [L]; omega⟩, (if_neg (by simp)).mpr ⟨S x, rfl, (if_neg cn).mpr ⟨S x, rfl, (if_neg (by simp)).mpr ?_⟩⟩⟩
      exact tail _ _ _ (.inl ⟨h, rfl, rfl⟩) g
    · simp only [M.to_W, M.none_W, M.bind_W, M.ret_W, M.need_W, M.the_W, M.ifb_W, M.anyOf_W, M.still_W, M.roll_W, M.pick_W, M.thn_W, M.thn_nx, M.thn_rt, M.thn_bk, M.thn_ct, M.fin_W, M.fin_rt, M.finN_W, M.finN_rt, M.finN_nx, M.FK_nx, M.FK_ct, M.FK_bk, M.FK_rt, decide_eq_true_eq, if_true, if_false, Bool.false_eq_true, Bool.not_eq_true', decide_eq_false_iff_not, Bool.not_true, Bool.not_false, ite_not, k45, k43, kE, k47, k40, k41, k114, k48, e]
      refine ⟨⟨by rw [L]; rfl, by rw [L]; omega⟩, (if_neg (by simp)).mpr ⟨S x, rfl, (if_pos cn).mpr ?_⟩⟩
      exact many (.inr ⟨x, h, .inl rfl, g⟩)
  · have lx : y.length + u.length + 1 ≤ 470 := by rw [ex] at hl; simp only [List.length_append, List.length_cons] at hl; omega
    have acu : Ac u := fun s m => ac s (by rw [ex]; exact List.mem_append_right _ (List.mem_cons_of_mem _ m))
    rcases cnt_114 y with ⟨g, cn⟩ | ⟨g, cn⟩
    · simp only [M.to_W, M.none_W, M.bind_W, M.ret_W, M.need_W, M.the_W, M.ifb_W, M.anyOf_W, M.still_W, M.roll_W, M.pick_W, M.thn_W, M.thn_nx, M.thn_rt, M.thn_bk, M.thn_ct, M.fin_W, M.fin_rt, M.finN_W, M.finN_rt, M.finN_nx, M.FK_nx, M.FK_ct, M.FK_bk, M.FK_rt, decide_eq_true_eq, if_true, if_false, Bool.false_eq_true, Bool.not_eq_true', decide_eq_false_iff_not, Bool.not_true, Bool.not_false, ite_not, k45, k43, kE, k47, k40, k41, k114, k48, e]
      refine ⟨⟨by rw [L]; rfl, by rw [L]; omega⟩, (if_neg (by simp)).mpr ⟨S y, rfl, (if_neg cn).mpr ⟨S y, rfl, (if_pos (by simp)).mpr ⟨S u, rfl, w_lint acu (by omega) ?_⟩⟩⟩⟩
      exact tail _ _ _ (.inr ⟨u, ex, hy, hu, rfl⟩) g
    · simp only [M.to_W, M.none_W, M.bind_W, M.ret_W, M.need_W, M.the_W, M.ifb_W, M.anyOf_W, M.still_W, M.roll_W, M.pick_W, M.thn_W, M.thn_nx, M.thn_rt, M.thn_bk, M.thn_ct, M.fin_W, M.fin_rt, M.finN_W, M.finN_rt, M.finN_nx, M.FK_nx, M.FK_ct, M.FK_bk, M.FK_rt, decide_eq_true_eq, if_true, if_false, Bool.false_eq_true, Bool.not_eq_true', decide_eq_false_iff_not, Bool.not_true, Bool.not_false, ite_not, k45, k43, kE, k47, k40, k41, k114, k48, e]
      refine ⟨⟨by rw [L]; rfl, by rw [L]; omega⟩, (if_neg (by simp)).mpr ⟨S y, rfl, (if_pos cn).mpr ?_⟩⟩
      exact many (.inr ⟨y, hy, .inr ⟨u, ex⟩, g⟩)
  · have e' : (2 : Int) < ((Txt.split (S x) (S [47])).length : Int) := by omega
    simp only [M.to_W, M.none_W, M.bind_W, M.ret_W, M.need_W, M.the_W, M.ifb_W, M.anyOf_W, M.still_W, M.roll_W, M.pick_W, M.thn_W, M.thn_nx, M.thn_rt, M.thn_bk, M.thn_ct, M.fin_W, M.fin_rt, M.finN_W, M.finN_rt, M.finN_nx, M.FK_nx, M.FK_ct, M.FK_bk, M.FK_rt, decide_eq_true_eq, if_true, if_false, Bool.false_eq_true, Bool.not_eq_true', decide_eq_false_iff_not, Bool.not_true, Bool.not_false, ite_not, k45, k43, kE, k47, k40, k41, k114, k48]
    exact ⟨⟨by rw [L]; rfl, by rw [L]; omega⟩, (if_pos e').mpr (many (.inl ⟨y, u, ex, hy, hu⟩))⟩
theorem fin_vd {x z : List Nat} {ob ot op or : Option Int} {lt : Bool} {n : Nm} (h : LT z ot op or lt) (e : finL x ob ot op or lt = some n) : Vd n ∧ x = cL n := by
  unfold finL at e
  split at e
  · next b t p r =>
    split at e
    · cases e
    · next hb =>
      split at e
      · cases e
      · next hr =>
        split at e
        · next hx =>
          cases e
          refine ⟨⟨mkNm_nrm _ _ _ (by omega), fun hp => ?_⟩, hx.symm⟩
          have p0 := mk_p hp
          show isRootB (if p = 0 then 0 else r) = true
          rw [if_neg p0]
          cases hl : lt with
          | true => 
            cases hh : isRootB r with
            | true => rfl
            | false => exact absurd ⟨hl, hh⟩ hr
          | false =>
            rcases h with ⟨_, _, _, q, _⟩ | ⟨q, _⟩
            · exact absurd (Option.some.inj q) p0
            · rw [hl] at q; cases q
        · cases e
  · cases e
theorem w_told_none {x : List Nat} {Q : PyData → Nat → Prop} (ac : Ac x) (hl : x.length ≤ 470) (n : ∀ g, Vd g → x ≠ cL g) (q : Q .none c) : M.W (m__law_told (S x, ())) c Q X :=
  w_told ac hl fun o h => by
    rcases h with ⟨rfl, _⟩ | ⟨y, z, ob, ot, op, or, lt, _, _, h3, rfl⟩
    · exact q
    · cases e : finL x ob ot op or lt with
      | none => exact q
      | some g =>
        obtain ⟨v, ex⟩ := fin_vd h3 e
        exact absurd ex (n g v)
theorem lI_nI (i : Int) : lI (nI i) = some i := by
  unfold lI
  rw [if_pos ⟨by rw [sg_nI]; exact numL_ne _, by rw [sg_nI]; exact dg_num _, by rw [iv_nI]⟩, iv_nI]
theorem cl_split (g : Nm) : ∃ y, cL g = y ++ unL g.b ∧ 47 ∉ y ∧ (∀ p w, y = p ++ 114 :: w → 114 ∉ p → 114 ∉ w) := by
  have f47 := fun i => nI_free (i := i) (s := 47) (by omega) (by omega)
  have f114 := fun i => nI_free (i := i) (s := 114) (by omega) (by omega)
  have a114 : 114 ∉ nI g.t ++ ((if 0 < g.p then [43] else []) ++ nI g.p) := by
    simp only [List.mem_append, not_or]
    refine ⟨f114 _, ?_, f114 _⟩
    split <;> simp
  have w47 : 47 ∉ whL g.t g.p g.r := by
    unfold whL
    simp only [List.mem_append, List.mem_cons, not_or]
    refine ⟨⟨f47 _, ?_, f47 _⟩, by decide, f47 _⟩
    split <;> simp
  unfold cL
  by_cases hp : g.p = 0
  · rw [if_pos hp]
    exact ⟨_, rfl, f47 _, fun p w e _ => absurd (by rw [e]; simp) (f114 g.t)⟩
  · rw [if_neg hp]
    by_cases ht : g.t = 0
    · rw [if_pos ht]
      refine ⟨_, rfl, ?_, fun p w e hp => ?_⟩
      · simp only [List.mem_append, List.mem_cons, not_or]
        exact ⟨f47 _, by decide, f47 _⟩
      · obtain ⟨_, rfl⟩ := first_uniq e (f114 _) hp
        exact f114 _
    · rw [if_neg ht]
      by_cases hb : g.b = 1
      · rw [if_pos hb]
        refine ⟨whL g.t g.p g.r, by unfold unL; rw [if_pos hb, List.append_nil], w47, fun p w e hp => ?_⟩
        unfold whL at e
        obtain ⟨_, rfl⟩ := first_uniq e a114 hp
        exact f114 _
      · rw [if_neg hb]
        refine ⟨_, rfl, ?_, fun p w e hp => ?_⟩
        · simp only [List.mem_append, List.mem_cons, List.not_mem_nil, not_or, or_false]
          exact ⟨by decide, w47, by decide⟩
        · unfold whL at e
          have e : (40 :: (nI g.t ++ ((if 0 < g.p then [43] else []) ++ nI g.p))) ++ 114 :: (nI g.r ++ [41]) = p ++ 114 :: w := by
            rw [← e]; simp
          obtain ⟨_, rfl⟩ := first_uniq e (by
            intro m
            rcases List.mem_cons.mp m with m | m
            · cases m
            · exact a114 m) hp
          intro m
          rcases List.mem_append.mp m with m | m
          · exact f114 _ m
          · have : (114 : Nat) = 41 := by simpa using m
            cases this
theorem not_many (g : Nm) : ¬ Many (cL g) := by
  obtain ⟨y, e, hy, hr⟩ := cl_split g
  have f47 := fun i => nI_free (i := i) (s := 47) (by omega) (by omega)
  rw [e]
  rintro (⟨y', u, e2, h1, h2⟩ | ⟨y', h1, h2, p, w, e3, h3, h4⟩)
  · unfold unL at e2
    by_cases hb : g.b = 1
    · rw [if_pos hb, List.append_nil] at e2
      exact hy (by rw [e2]; simp)
    · rw [if_neg hb] at e2
      obtain ⟨_, rfl⟩ := first_uniq e2 hy h1
      exact f47 _ h2
  · have ey : y' = y := by
      unfold unL at h2
      by_cases hb : g.b = 1
      · rw [if_pos hb, List.append_nil] at h2
        rcases h2 with h2 | ⟨u, h2⟩
        · exact h2
        · exact absurd (by rw [h2]; simp) hy
      · rw [if_neg hb] at h2
        rcases h2 with h2 | ⟨u, h2⟩
        · exact absurd (by rw [h2]; simp) h1
        · exact (first_uniq h2 hy h1).1.symm
    subst ey
    exact hr p w e3 h3 h4
theorem under_ofL {y : List Nat} {b : Int} {y' : List Nat} {ob : Option Int} (hy : 47 ∉ y) (h : SL (y ++ unL b) y' ob) : y' = y ∧ ob = some b := by
  unfold SL unL at h
  by_cases h1 : b = 1
  · rw [if_pos h1, List.append_nil] at h
    rcases h with ⟨_, e1, e2⟩ | ⟨u, e1, _⟩
    · exact ⟨e1, by rw [e2, h1]⟩
    · exact absurd (by rw [e1]; simp) hy
  · rw [if_neg h1] at h
    rcases h with ⟨n, _⟩ | ⟨u, e1, e2, _, e3⟩
    · exact absurd (by simp) n
    · obtain ⟨q1, q2⟩ := first_uniq e1 hy e2
      exact ⟨q1.symm, by rw [e3, ← q2]; exact lI_nI _⟩
theorem rd_intL {t : Int} {ot op or : Option Int} {lt : Bool} (h : LT (nI t) ot op or lt) : lt = false ∧ ot = some t ∧ op = some 0 ∧ or = some 0 := by
  have n := nI_free (i := t) (s := 114) (by omega) (by omega)
  rcases h with ⟨h1, _, h2, h3, h4⟩ | ⟨_, ah, bh, f, l, e, _⟩
  · rw [lI_nI] at h2
    exact ⟨h1, h2, h3, h4⟩
  · exact absurd (by rw [e]; simp) n
theorem rd_letL {a : List Nat} {r : Int} {ot op or : Option Int} {lt : Bool} (ha : 114 ∉ a) (h : LT (a ++ 114 :: nI r) ot op or lt) : lt = true ∧ or = some r ∧ ∃ f l, SidesR a f l ∧ ot = (if f = [] then some 0 else lI f) ∧ op = lI l := by
  rcases h with ⟨_, n, _⟩ | ⟨h1, ah, bh, f, l, e, h2, h3, h4, h5, h6⟩
  · exact absurd (by simp) n
  · obtain ⟨q1, q2⟩ := first_uniq e ha h2
    subst q1 q2
    exact ⟨h1, by rw [h3, lI_nI], f, l, h4, h5, h6⟩
theorem nI_cut {p : Int} {f v : List Nat} {s : Nat} (e : nI p = f ++ s :: v) (hf : f ≠ []) : s ≠ 43 ∧ s ≠ 45 := by
  have n43 := nI_free (i := p) (s := 43) (by omega) (by omega)
  refine ⟨fun z => n43 (by rw [e, z]; simp), fun z => ?_⟩
  subst z
  by_cases hp : p < 0
  · rw [nI_neg hp] at e
    cases f with
    | nil => exact hf rfl
    | cons x f =>
      have e : 45 :: numL p.natAbs = x :: (f ++ 45 :: v) := e
      injection e with _ e
      exact numL_free45 _ (by rw [e]; simp)
  · rw [nI_nn (by omega)] at e
    exact numL_free45 _ (by rw [e]; simp)
theorem sides_one {p : Int} {f l : List Nat} (h : SidesR (nI p) f l) : f = [] ∧ l = nI p := by
  rcases h with ⟨h1, h2, _⟩ | ⟨s, v, e, hf, hs, _⟩
  · exact ⟨h1, h2⟩
  · have := nI_cut e hf
    omega
theorem last_two {u v u' v' : List Nat} {s s' : Nat} (h : u ++ s :: v = u' ++ s' :: v') (hs : s = 43 ∨ s = 45) (hs' : s' = 43 ∨ s' = 45) (h1 : 43 ∉ v ∧ 45 ∉ v) (h2 : 43 ∉ v' ∧ 45 ∉ v') : u = u' ∧ s = s' ∧ v = v' := by
  have e : s = s' := by
    rcases Nat.lt_trichotomy u.length u'.length with g | g | g
    · have := congrArg (fun l : List Nat => l[u'.length]?) h
      simp only [List.getElem?_append_right (Nat.le_refl _), Nat.sub_self, List.getElem?_cons_zero] at this
      rw [List.getElem?_append_right (by omega), show u'.length - u.length = (u'.length - u.length - 1) + 1 by omega, List.getElem?_cons_succ] at this
      have m := List.mem_of_getElem? this
      rcases hs' with rfl | rfl
      · exact absurd m h1.1
      · exact absurd m h1.2
    · have := congrArg (fun l : List Nat => l[u'.length]?) h
      simp only [List.getElem?_append_right (Nat.le_refl _), Nat.sub_self, List.getElem?_cons_zero] at this
      rw [List.getElem?_append_right (by omega), g, Nat.sub_self, List.getElem?_cons_zero] at this
      exact Option.some.inj this
    · have := congrArg (fun l : List Nat => l[u.length]?) h
      simp only [List.getElem?_append_right (Nat.le_refl _), Nat.sub_self, List.getElem?_cons_zero] at this
      rw [List.getElem?_append_right (by omega), show u.length - u'.length = (u.length - u'.length - 1) + 1 by omega, List.getElem?_cons_succ] at this
      have m := List.mem_of_getElem? this.symm
      rcases hs with rfl | rfl
      · exact absurd m h2.1
      · exact absurd m h2.2
  subst e
  have n1 : s ∉ v := fun m => by
    rcases hs with rfl | rfl
    · exact h1.1 m
    · exact h1.2 m
  have n2 : s ∉ v' := fun m => by
    rcases hs with rfl | rfl
    · exact h2.1 m
    · exact h2.2 m
  obtain ⟨q1, q2⟩ := last_uniq h n1 n2
  exact ⟨q1, rfl, q2⟩
theorem sides_two {t p : Int} {f l : List Nat} (hp : p ≠ 0) (h : SidesR (nI t ++ ((if 0 < p then [43] else []) ++ nI p)) f l) : f = nI t ∧ l = nI p := by
  have n45 : ∀ n : Nat, 43 ∉ numL n ∧ 45 ∉ numL n := fun n => ⟨numL_free (by omega), numL_free45 n⟩
  by_cases h0 : 0 < p
  · rw [if_pos h0, nI_nn (show 0 ≤ p by omega)] at h
    have h : SidesR (nI t ++ 43 :: numL p.natAbs) f l := h
    rw [nI_nn (show 0 ≤ p by omega)]
    rcases h with ⟨_, _, n⟩ | ⟨s, v, e, hf, hs, h1, h2, el⟩
    · exact absurd rfl (n _ 43 _ rfl (nI_ne t)).1
    · obtain ⟨q1, q2, q3⟩ := last_two e (.inl rfl) hs (n45 _) ⟨h1, h2⟩
      rw [← q2, if_pos rfl] at el
      exact ⟨q1.symm, by rw [el, q3]⟩
  · rw [if_neg h0, List.nil_append, nI_neg (show p < 0 by omega)] at h
    rw [nI_neg (show p < 0 by omega)]
    rcases h with ⟨_, _, n⟩ | ⟨s, v, e, hf, hs, h1, h2, el⟩
    · exact absurd rfl (n _ 45 _ rfl (nI_ne t)).2
    · obtain ⟨q1, q2, q3⟩ := last_two e (.inr rfl) hs (n45 _) ⟨h1, h2⟩
      rw [← q2, if_neg (by decide)] at el
      exact ⟨q1.symm, by rw [el, q3]⟩
theorem fin_okL {g : Nm} (v : Vd g) {or : Option Int} {lt : Bool} (h : (lt = false ∧ or = some 0 ∧ g.p = 0) ∨ (lt = true ∧ or = some g.r ∧ g.p ≠ 0)) : finL (cL g) (some g.b) (some g.t) (some g.p) or lt = some g := by
  unfold finL
  have hb := v.n.b
  rcases h with ⟨rfl, rfl, hp⟩ | ⟨rfl, rfl, hp⟩
  · dsimp only
    have e := mkNm_self v.n
    rw [v.n.r hp] at e
    rw [if_neg (by omega), if_neg (by simp), e, if_pos rfl]
  · dsimp only
    rw [if_neg (by omega), if_neg (by
      rintro ⟨_, z⟩
      rw [v.r hp] at z; cases z), mkNm_self v.n, if_pos rfl]
theorem told_cL {g : Nm} {y z : List Nat} {ob ot op or : Option Int} {lt : Bool} (v : Vd g) (h1 : SL (cL g) y ob) (h2 : UnB y z) (h3 : LT z ot op or lt) : finL (cL g) ob ot op or lt = some g := by
  have f47 := fun i => nI_free (i := i) (s := 47) (by omega) (by omega)
  have f114 := fun i => nI_free (i := i) (s := 114) (by omega) (by omega)
  have ec : cL g = if g.p = 0 then nI g.t ++ unL g.b else if g.t = 0 then (nI g.p ++ 114 :: nI g.r) ++ unL g.b else if g.b = 1 then whL g.t g.p g.r else (40 :: (whL g.t g.p g.r ++ [41])) ++ unL g.b := rfl
  by_cases hp : g.p = 0
  · rw [if_pos hp] at ec
    rw [ec] at h1
    obtain ⟨rfl, rfl⟩ := under_ofL (f47 _) h1
    obtain rfl := unb_id (nI_head _) h2
    obtain ⟨rfl, rfl, rfl, rfl⟩ := rd_intL h3
    have := fin_okL v (or := some 0) (lt := false) (.inl ⟨rfl, rfl, hp⟩)
    rw [hp] at this
    exact this
  · rw [if_neg hp] at ec
    by_cases ht : g.t = 0
    · rw [if_pos ht] at ec
      rw [ec] at h1
      obtain ⟨rfl, rfl⟩ := under_ofL (by
        simp only [List.mem_append, List.mem_cons, not_or]
        exact ⟨f47 _, by decide, f47 _⟩) h1
      obtain rfl := unb_id nI_hd h2
      obtain ⟨rfl, rfl, f, l, q1, q2, q3⟩ := rd_letL (f114 _) h3
      obtain ⟨rfl, rfl⟩ := sides_one q1
      rw [if_pos rfl] at q2
      rw [lI_nI] at q3
      subst q2 q3
      have := fin_okL v (or := some g.r) (lt := true) (.inr ⟨rfl, rfl, hp⟩)
      rw [ht] at this
      exact this
    · rw [if_neg ht] at ec
      have a114 : 114 ∉ nI g.t ++ ((if 0 < g.p then [43] else []) ++ nI g.p) := by
        simp only [List.mem_append, not_or]
        refine ⟨f114 _, ?_, f114 _⟩
        split <;> simp
      have w47 : 47 ∉ whL g.t g.p g.r := by
        unfold whL
        simp only [List.mem_append, List.mem_cons, not_or]
        refine ⟨⟨f47 _, ?_, f47 _⟩, by decide, f47 _⟩
        split <;> simp
      have fin : LT (whL g.t g.p g.r) ot op or lt → finL (cL g) (some g.b) ot op or lt = some g := fun h3 => by
        unfold whL at h3
        obtain ⟨rfl, rfl, f, l, q1, q2, q3⟩ := rd_letL a114 h3
        obtain ⟨rfl, rfl⟩ := sides_two hp q1
        rw [if_neg (nI_ne _), lI_nI] at q2
        rw [lI_nI] at q3
        subst q2 q3
        exact fin_okL v (.inr ⟨rfl, rfl, hp⟩)
      by_cases hb : g.b = 1
      · rw [if_pos hb] at ec
        rw [ec] at h1
        have e : whL g.t g.p g.r = whL g.t g.p g.r ++ unL g.b := by unfold unL; rw [if_pos hb, List.append_nil]
        rw [e] at h1
        obtain ⟨rfl, rfl⟩ := under_ofL w47 h1
        have hd : (whL g.t g.p g.r).head? ≠ some 40 := by
          unfold whL
          rw [List.append_assoc]
          exact nI_hd
        obtain rfl := unb_id hd h2
        exact fin h3
      · rw [if_neg hb] at ec
        rw [ec] at h1
        obtain ⟨rfl, rfl⟩ := under_ofL (by
          simp only [List.mem_append, List.mem_cons, List.not_mem_nil, not_or, or_false]
          exact ⟨by decide, w47, by decide⟩) h1
        obtain rfl := unb_br h2
        exact fin h3
theorem nI_ac (i : Int) : Ac (nI i) := fun z h => by
  unfold nI at h
  have d : ∀ n : Nat, z ∈ numL n → z < 256 := fun n m => by have := numL_digits n z m; omega
  split at h
  · rcases List.mem_cons.mp h with rfl | h
    · decide
    · exact d _ h
  · exact d _ h
theorem Ac.app {a b : List Nat} (h : Ac a) (k : Ac b) : Ac (a ++ b) := fun z m => (List.mem_append.mp m).elim (h z) (k z)
theorem Ac.cons {a : List Nat} {x : Nat} (h : Ac a) (k : x < 256) : Ac (x :: a) := fun z m => (List.mem_cons.mp m).elim (fun e => e ▸ k) (h z)
theorem Ac.nil : Ac [] := fun z m => by cases m
theorem cL_ac (g : Nm) : Ac (cL g) := by
  have un : Ac (unL g.b) := by
    unfold unL
    split
    · exact .nil
    · exact (nI_ac _).cons (by decide)
  have wh : Ac (whL g.t g.p g.r) := by
    unfold whL
    refine ((nI_ac _).app (Ac.app ?_ (nI_ac _))).app ((nI_ac _).cons (by decide))
    split
    · exact Ac.nil.cons (by decide)
    · exact .nil
  unfold cL
  split
  · exact (nI_ac _).app un
  · split
    · exact ((nI_ac _).app ((nI_ac _).cons (by decide))).app un
    · split
      · exact wh
      · exact ((wh.app (Ac.nil.cons (by decide))).cons (by decide)).app un
theorem w_told_some {g : Nm} {Q : PyData → Nat → Prop} (v : Vd g) (hl : (cL g).length ≤ 470) (q : Q (fD g) c) : M.W (m__law_told (S (cL g), ())) c Q X :=
  w_told (cL_ac g) hl fun o h => by
    rcases h with ⟨_, m⟩ | ⟨y, z, ob, ot, op, or, lt, h1, h2, h3, rfl⟩
    · exact absurd m (not_many g)
    · rw [told_cL v h1 h2 h3]; exact q
end
section
variable {c : Nat} {X : Er → Prop}
theorem bd_of {i : Int} {k N : Nat} (h : i.natAbs ≤ N) (l : N < 2 ^ k) : Bd k i := Nat.lt_of_le_of_lt h l
theorem near_le {x : Int} (h : x ∈ [10, 10, 10, (10 : Int) ^ Int.toNat 6, (10 : Int) ^ Int.toNat 30]) : 10 ≤ x ∧ x ≤ 1000000000000000000000000000000 := by
  simp only [List.mem_cons, List.not_mem_nil, or_false] at h
  rcases h with rfl | rfl | rfl | rfl | rfl <;> decide +kernel
theorem w_drawn {r : Int} {Q : Int × Int × Int × Int × Unit → Nat → Prop} (hc : c < 2 ^ 50) (q : ∀ t p b d, Bd 104 t → Bd 104 p → b ≠ 0 → Bd 104 b → (r = 0 → p = 0) → c ≤ d → d ≤ c + 5 → Q (t, p, r, b, ()) d) : M.W (m__law_parts_drawn (r, ())) c Q X := by
  simp only [m__law_parts_drawn, b__law_parts_drawn, M.to_W, M.none_W, M.bind_W, M.ret_W, M.need_W, M.the_W, M.ifb_W, M.anyOf_W, M.still_W, M.roll_W, M.pick_W, M.thn_W, M.thn_nx, M.thn_rt, M.thn_bk, M.thn_ct, M.fin_W, M.fin_rt, M.finN_W, M.finN_rt, M.finN_nx, M.FK_nx, M.FK_ct, M.FK_bk, M.FK_rt, decide_eq_true_eq, if_true, if_false, Bool.false_eq_true, Bool.not_eq_true', decide_eq_false_iff_not, Bool.not_true, Bool.not_false, ite_not]
  have big : (1000000000000000000000000000000 : Nat) * 2 + 1 < 2 ^ 104 := by decide
  have bot : ∀ x v b : Int, x ≤ 1000000000000000000000000000000 → 0 ≤ v → v < x → b ∈ [1, 1, 2, 3, -4, 6, -1, 12, 1 + v] → b ≠ 0 ∧ Bd 104 b := fun x v b h1 h2 h3 h4 => by
    simp only [List.mem_cons, List.not_mem_nil, or_false] at h4
    refine ⟨by omega, bd_of (N := 1000000000000000000000000000000 * 2 + 1) (by omega) big⟩
  refine ⟨⟨by decide, by decide, by decide⟩, ⟨by decide, by decide, by decide⟩, by omega, by decide, by decide, fun x hx => ?_⟩
  obtain ⟨x1, x2⟩ := near_le hx
  have bx : Bd 104 x := bd_of (N := 1000000000000000000000000000000 * 2 + 1) (by omega) big
  have bx2 : Bd 104 (2 * x + 1) := bd_of (N := 1000000000000000000000000000000 * 2 + 1) (by omega) big
  have cm : CMulX 2 x := Bd.mulx (n := 10) (bd_sm (by decide) (by decide)) bx (by decide)
  refine ⟨cm, by omega, by omega, bx2.mono (by decide), fun u u0 u1 => ?_⟩
  have bu : Bd 104 (u - x) := bd_of (N := 1000000000000000000000000000000 * 2 + 1) (by omega) big
  have b0 : Bd 104 0 := bd_sm (by decide) (by decide)
  by_cases hr : r = 0
  · rw [if_pos hr]
    refine ⟨by omega, by omega, bx.mono (by decide), fun v v0 v1 => ⟨by omega, by simp, by simp, fun b hb => ?_⟩⟩
    obtain ⟨n, bb⟩ := bot x v b x2 v0 v1 hb
    exact q _ _ _ _ bu b0 n bb (fun _ => rfl) (by omega) (by omega)
  · rw [if_neg hr]
    refine ⟨cm, by omega, by omega, bx2.mono (by decide), fun w w0 w1 => ⟨by omega, by omega, bx.mono (by decide), fun v v0 v1 => ⟨by omega, by simp, by simp, fun b hb => ?_⟩⟩⟩
    obtain ⟨n, bb⟩ := bot x v b x2 v0 v1 hb
    exact q _ _ _ _ bu (bd_of (N := 1000000000000000000000000000000 * 2 + 1) (by omega) big) n bb (fun z => absurd z hr) (by omega) (by omega)
theorem w_made {t p r b : Int} {Q : Nm → Nat → Prop} (h : b ≠ 0) (hr : okRoot r p) (hb : Bd 9000 b) (q : Q (mkNm t p r b) c) : M.W (m__law_made ((t, p, r, b, ()), ())) c Q X := by
  simp only [m__law_made, b__law_made, M.to_W, M.none_W, M.bind_W, M.ret_W, M.need_W, M.the_W, M.ifb_W, M.anyOf_W, M.still_W, M.roll_W, M.pick_W, M.thn_W, M.thn_nx, M.thn_rt, M.thn_bk, M.thn_ct, M.fin_W, M.fin_rt, M.finN_W, M.finN_rt, M.finN_nx, M.FK_nx, M.FK_ct, M.FK_bk, M.FK_rt, decide_eq_true_eq, if_true, if_false, Bool.false_eq_true, Bool.not_eq_true', decide_eq_false_iff_not, Bool.not_true, Bool.not_false, ite_not]
  exact ⟨⟨h, hr, hb⟩, q⟩
theorem mul_S (x : Nat) (n : Int) : Txt.mul (S [x]) n = S (List.replicate n.toNat x) := by
  have e := mul_one_list x n
  have : Txt.mul (S [x]) n = S (Txt.mul (S [x]) n).cps.toList := rfl
  rw [this]
  exact congrArg S e
def kSigns : List Nat := [48, 49, 50, 51, 52, 53, 54, 55, 56, 57, 114, 43, 45, 47, 40, 41, 32]
theorem k_signs : Str.ofString "0123456789r+-/() " = S kSigns := by decide +kernel
theorem w_bent {a : List Nat} {Q : Str → Nat → Prop} (hc : c < 2 ^ 50) (ac : Ac a) (hl : a.length ≤ 450) (q : ∀ b d, Ac b → b.length ≤ a.length + 2 → c ≤ d → d ≤ c + 9 → Q (S b) d) : M.W (m__law_bent (S a, ())) c Q X := by
  have sl := sizeLine_eq
  have L : ∀ a : List Nat, (S a).length = a.length := S_len
  simp only [m__law_bent, b__law_bent, M.to_W, M.none_W, M.bind_W, M.ret_W, M.need_W, M.the_W, M.ifb_W, M.anyOf_W, M.still_W, M.roll_W, M.pick_W, M.thn_W, M.thn_nx, M.thn_rt, M.thn_bk, M.thn_ct, M.fin_W, M.fin_rt, M.finN_W, M.finN_rt, M.finN_nx, M.FK_nx, M.FK_ct, M.FK_bk, M.FK_rt, decide_eq_true_eq, if_true, if_false, Bool.false_eq_true, Bool.not_eq_true', decide_eq_false_iff_not, Bool.not_true, Bool.not_false, ite_not, k_signs]
  refine ⟨by omega, by decide, bd_sm (by decide) (by decide), fun u u0 u1 => ⟨⟨by omega, by omega⟩, M.forM_inv (fun i ρ d => c ≤ d ∧ d ≤ c + 1 + 4 * i ∧ ∃ b, ρ.2.1 = S b ∧ Ac b ∧ b.length ≤ a.length + i ∧ ρ.2.2 = ((), (), (), ())) ⟨by omega, by omega, a, rfl, ac, by omega, rfl⟩ (fun i x ρ d hx hI => ?_) fun ρ d hI => ?_⟩⟩
  · obtain ⟨d1, d2, b, e, acb, lb, e2⟩ := hI
    obtain ⟨ρ1, ρ2, ρ3⟩ := ρ
    obtain ⟨hi, rfl⟩ := rng_get hx
    dsimp only at e e2
    subst e e2
    show M.W _ _ _ _
    simp only [M.to_W, M.none_W, M.bind_W, M.ret_W, M.need_W, M.the_W, M.ifb_W, M.anyOf_W, M.still_W, M.roll_W, M.pick_W, M.thn_W, M.thn_nx, M.thn_rt, M.thn_bk, M.thn_ct, M.fin_W, M.fin_rt, M.finN_W, M.finN_rt, M.finN_nx, M.FK_nx, M.FK_ct, M.FK_bk, M.FK_rt, decide_eq_true_eq, if_true, if_false, Bool.false_eq_true, Bool.not_eq_true', decide_eq_false_iff_not, Bool.not_true, Bool.not_false, ite_not]
    have hi2 : i < 2 := by omega
    rw [L b]
    refine ⟨by omega, by omega, by omega, bd_sm (by omega) (by decide), fun at_ a0 a1 => ⟨by omega, by decide, bd_sm (by decide) (by decide), fun k k0 k1 => ?_⟩⟩
    obtain ⟨k, rfl⟩ := Int.eq_ofNat_of_zero_le k0
    obtain ⟨at_, rfl⟩ := Int.eq_ofNat_of_zero_le a0
    have hk : k < kSigns.length := by show k < 17; omega
    refine ⟨by rw [L, sl]; decide, kSigns[k], atI_nat hk, by omega, by omega, by decide, bd_sm (by decide) (by decide), fun m m0 m1 => ?_⟩
    have sk : kSigns[k] < 256 := (show ∀ z ∈ kSigns, z < 256 by decide) _ (List.getElem_mem hk)
    rw [show ({ cps := #[kSigns[k]] } : Str) = S [kSigns[k]] from rfl, mul_S, cut_to]
    generalize hm : (if 0 < m then (1 : Int) else 0) = mm
    have m2 : mm = 0 ∨ mm = 1 := by rw [← hm]; split <;> simp
    have mo : MulOk (S [kSigns[k]]) mm := by
      rcases m2 with rfl | rfl
      · exact ⟨by decide, fun z => absurd (by decide) z, fun z => absurd (by decide) z⟩
      · exact ⟨by decide, fun _ z => by simp at z, fun _ z => by simp at z⟩
    have lr : (List.replicate mm.toNat kSigns[k]).length ≤ 1 := by
      rw [List.length_replicate]
      rcases m2 with rfl | rfl <;> decide
    have acr : Ac (List.replicate mm.toNat kSigns[k]) := fun z h => by rw [List.eq_of_mem_replicate h]; exact sk
    rw [S_cat, L, L, L]
    have lt := List.length_take (i := at_) (l := b)
    refine ⟨mo, by omega, by omega, by decide, bd_sm (by decide) (by decide), fun n n0 n1 => ?_⟩
    obtain ⟨n, rfl⟩ := Int.eq_ofNat_of_zero_le n0
    rw [show ((at_ : Int) + (n : Int)) = ((at_ + n : Nat) : Int) by omega, cut_from, S_cat, L]
    have ld := List.length_drop (i := at_ + n) (l := b)
    refine ⟨by omega, by simp only [List.length_append] at *; omega, by omega, by omega, _, rfl, ((Ac.app (fun z h => acb z (List.mem_of_mem_take h)) acr).app fun z h => acb z (List.mem_of_mem_drop h)), ?_, trivial⟩
    simp only [List.length_append] at *
    omega
  · obtain ⟨d1, d2, b, e, acb, lb, e2⟩ := hI
    rw [rng_len] at d2 lb
    show Q _ _
    simp only [e]
    exact q b d acb (by omega) d1 (by omega)
end
section
variable {c : Nat} {X : Er → Prop}
open Classical in
noncomputable def dX (x : List Nat) : PyData := if h : ∃ g, Vd g ∧ x = cL g then fD h.choose else .none
theorem dX_cases (x : List Nat) : (∃ g, Vd g ∧ x = cL g ∧ dX x = fD g) ∨ ((∀ g, Vd g → x ≠ cL g) ∧ dX x = .none) := by
  unfold dX
  by_cases h : ∃ g, Vd g ∧ x = cL g
  · rw [dif_pos h]
    exact .inl ⟨h.choose, h.choose_spec.1, h.choose_spec.2, rfl⟩
  · rw [dif_neg h]
    exact .inr ⟨fun g v e => h ⟨g, v, e⟩, rfl⟩
theorem w_read_D {x : List Nat} {Q : PyData → Nat → Prop} (hl : x.length ≤ 470) (q : Q (dX x) c) : M.W (m__law_read (.inl (.str (S x)), ())) c Q X := by
  rcases dX_cases x with ⟨g, v, e, d⟩ | ⟨n, d⟩
  · rw [d] at q
    subst e
    exact w_read_some v (by omega) q
  · rw [d] at q
    exact w_read_none (by omega) n q
theorem w_told_D {x : List Nat} {Q : PyData → Nat → Prop} (ac : Ac x) (hl : x.length ≤ 470) (q : Q (dX x) c) : M.W (m__law_told (S x, ())) c Q X := by
  rcases dX_cases x with ⟨g, v, e, d⟩ | ⟨n, d⟩
  · rw [d] at q
    subst e
    exact w_told_some v (by omega) q
  · rw [d] at q
    exact w_told_none ac hl n q
theorem nI_len {i : Int} (h : Bd 104 i) : (nI i).length ≤ 105 := by
  have e := int_text_length_le (k := 104) (by decide) (bd_log h (by decide))
  have l : (Str.ofString (toString i)).length ≤ 105 := by rw [PySem.ofString_length]; exact e
  rw [s_int, S_len] at l
  exact l
theorem nI_len10 {i : Int} (h : Bd 10 i) : (nI i).length ≤ 11 := by
  have e := int_text_length_le (k := 10) (by decide) (bd_log h (by decide))
  have l : (Str.ofString (toString i)).length ≤ 11 := by rw [PySem.ofString_length]; exact e
  rw [s_int, S_len] at l
  exact l
theorem cL_len {g : Nm} (h : Gd 104 g) : (cL g).length ≤ 332 := by
  have l1 := nI_len h.t
  have l2 := nI_len h.p
  have l3 := nI_len10 h.r
  have l4 := nI_len h.b
  have u : (unL g.b).length ≤ 106 := by
    unfold unL
    split
    · simp
    · rw [List.length_cons]; omega
  have w : (whL g.t g.p g.r).length ≤ 223 := by
    unfold whL
    simp only [List.length_append, List.length_cons]
    split <;> simp <;> omega
  unfold cL
  split
  · rw [List.length_append]; omega
  · split
    · simp only [List.length_append, List.length_cons]; omega
    · split
      · omega
      · simp only [List.length_append, List.length_cons, List.length_nil]; omega
theorem fD_lay (g : Nm) : (fD g).canLay0 = true := by
  simp [fD, PyData.canLay0, PyData.canLayAll0]
theorem fD_dep (g : Nm) : (fD g).depth ≤ 64 := by
  simp [fD, PyData.depth, PyData.depthAll]
theorem fD_eqv (g : Nm) : (fD g).eqv (fD g) = true := by
  simp [fD, PyData.eqv, PyData.eqvAll]
theorem shown_fD (g : Nm) : (fD g).shown = S (40 :: (nI g.t ++ 44 :: 32 :: (nI g.p ++ 44 :: 32 :: (nI g.r ++ 44 :: 32 :: (nI g.b ++ [41]))))) := by
  unfold fD
  rw [PyData.shown_tuple]
  have e : PyData.shownAll [.int g.t, .int g.p, .int g.r, .int g.b] = [nI g.t, nI g.p, nI g.r, nI g.b].map S := by
    simp only [PyData.shownAll, PyData.shown_int, List.map_cons, List.map_nil, s_int]
  rw [e, show (Str.ofString ", ") = S [44, 32] by decide +kernel, show (Str.ofString "(") = S [40] by decide +kernel, ← TL.join_eq, join_S, S_cat]
  rw [show (Str.ofString (if ([PyData.int g.t, .int g.p, .int g.r, .int g.b].length == 1) = true then ",)" else ")")) = S [41] from (show Str.ofString ")" = S [41] by decide +kernel), S_cat]
  simp [TL.joinL]
theorem dX_facts (x : List Nat) (hl : x.length ≤ 470) : (dX x).showable = true ∧ (dX x).hasDict = false ∧ (dX x).shown.length ≤ sizeLine ∧ (dX x).depth ≤ 64 := by
  have sl := sizeLine_eq
  rcases dX_cases x with ⟨g, v, e, d⟩ | ⟨_, d⟩
  · rw [d]
    subst e
    obtain ⟨h1, h2, h3⟩ := cL_parts g
    have r := v.r0
    have hr : Bd 10 g.r := bd_sm (by omega) (by decide)
    have lr := nI_len10 hr
    have lg : ∀ i : Int, (nI i).length ≤ 471 → i.natAbs.log2 < 1920 := fun i h => Nat.lt_trans (bd_log (nI_bd (k := 471) h) (by decide)) (by decide)
    refine ⟨?_, rfl, ?_, fD_dep g⟩
    · show PyData.showableAll [.int g.t, .int g.p, .int g.r, .int g.b] = true
      simp only [PyData.showableAll, PyData.showable]
      rw [decide_eq_true (lg _ (by omega)), decide_eq_true (lg _ (by omega)), decide_eq_true (lg _ (by omega)), decide_eq_true (lg _ (by omega))]
      rfl
    · rw [shown_fD, S_len]
      simp only [List.length_cons, List.length_append, List.length_nil]
      omega
  · rw [d]
    refine ⟨rfl, rfl, ?_, by simp [PyData.depth]⟩
    rw [sl, PyData.shown_none]
    decide +kernel
theorem forM_W {α Γ Δ β : Type} {xs : List α} {f : α → Γ → M (Ct Γ Γ β)} {Q : Ct Γ Δ β → Nat → Prop} (I : Nat → Γ → Nat → Prop) {ρ : Γ} (h0 : I 0 ρ c)
    (hs : ∀ i a ρ c, xs[i]? = some a → I i ρ c → M.W (f a ρ) c (fun k d => M.FK (I (i + 1)) Q k d) X) (hd : ∀ ρ c, I xs.length ρ c → Q (.nx ρ) c) : M.W (M.forM (Δ := Δ) xs f ρ) c Q X := M.forM_inv I h0 hs hd
def OkL (n : Nat) (s : Str) : Prop := ∃ a, s = S a ∧ Ac a ∧ a.length ≤ n
theorem OkL.len {n : Nat} {s : Str} (h : OkL n s) : s.length ≤ n := by
  obtain ⟨a, rfl, _, l⟩ := h
  rw [S_len]; exact l
theorem OkL.app {n m : Nat} {s t : Str} (h : OkL n s) (k : OkL m t) : OkL (n + m) (s ++ t) := by
  obtain ⟨a, rfl, ha, la⟩ := h
  obtain ⟨b, rfl, hb, lb⟩ := k
  exact ⟨a ++ b, S_cat _ _, ha.app hb, by rw [List.length_append]; omega⟩
theorem OkL.lit {s : Str} (h : (s.cps.toList.all (fun z => decide (z < 256)) && decide (s.cps.toList.length ≤ 20)) = true) : OkL 20 s := by
  obtain ⟨h1, h2⟩ := Bool.and_eq_true_iff.mp h
  exact ⟨s.cps.toList, rfl, fun z m => of_decide_eq_true (List.all_eq_true.mp h1 z m), of_decide_eq_true h2⟩
theorem le2 {n m : Nat} {s t : Str} (h : OkL n s) (k : OkL m t) (l : n + m ≤ 1000) : s.length + t.length ≤ sizeLine := by
  have := h.len
  have := k.len
  have := sizeLine_eq
  omega
def AllOk (l : List Str) : Prop := ∀ s ∈ l, OkL 470 s
theorem AllOk.nil : AllOk [] := fun s h => by cases h
theorem AllOk.cons {n : Nat} {s : Str} {l : List Str} (h : OkL n s) (hn : n ≤ 470) (k : AllOk l) : AllOk (s :: l) := fun x m => by
  rcases List.mem_cons.mp m with rfl | m
  · obtain ⟨a, e, ha, la⟩ := h
    exact ⟨a, e, ha, by omega⟩
  · exact k x m
theorem AllOk.app {l m : List Str} (h : AllOk l) (k : AllOk m) : AllOk (l ++ m) := fun x z => (List.mem_append.mp z).elim (h x) (k x)
theorem w_right {Q : Bool → Nat → Prop} (hc : c < 6000) (q : ∀ d, d ≤ c + 600 → Q true d) : M.W (m__law_right ()) c Q X := by
  have sl := sizeLine_eq
  unfold m__law_right b__law_right
  rw [M.fin_W]
  refine thn_gen fun k1 h1 => ?_
  simp only [M.to_W, M.none_W, M.bind_W, M.ret_W, M.need_W, M.the_W, M.ifb_W, M.anyOf_W, M.still_W, M.roll_W, M.pick_W, M.thn_W, M.thn_nx, M.thn_rt, M.thn_bk, M.thn_ct, M.fin_W, M.fin_rt, M.finN_W, M.finN_rt, M.finN_nx, M.FK_nx, M.FK_ct, M.FK_bk, M.FK_rt, decide_eq_true_eq, if_true, if_false, Bool.false_eq_true, Bool.not_eq_true', decide_eq_false_iff_not, Bool.not_true, Bool.not_false, ite_not]
  refine ⟨by omega, by decide, by decide, fun r hr => ?_⟩
  have okr : ∀ p, (r = 0 → p = 0) → okRoot r p := fun p hp => by
    simp only [List.mem_cons, List.not_mem_nil, or_false] at hr
    rcases hr with rfl | rfl | rfl | rfl | rfl | rfl
    · exact .inl ⟨rfl, hp rfl⟩
    all_goals exact .inr (by decide +kernel)
  rw [h1]
  refine thn_gen fun k2 h2 => ?_
  simp only [M.to_W, M.none_W, M.bind_W, M.ret_W, M.need_W, M.the_W, M.ifb_W, M.anyOf_W, M.still_W, M.roll_W, M.pick_W, M.thn_W, M.thn_nx, M.thn_rt, M.thn_bk, M.thn_ct, M.fin_W, M.fin_rt, M.finN_W, M.finN_rt, M.finN_nx, M.FK_nx, M.FK_ct, M.FK_bk, M.FK_rt, decide_eq_true_eq, if_true, if_false, Bool.false_eq_true, Bool.not_eq_true', decide_eq_false_iff_not, Bool.not_true, Bool.not_false, ite_not]
  refine w_drawn (by omega) fun t p b d bt bp b0 bb hrp d1 d2 => ?_
  have hp := okr p hrp
  rw [h2]
  refine thn_gen fun k3 h3 => ?_
  simp only [M.to_W, M.none_W, M.bind_W, M.ret_W, M.need_W, M.the_W, M.ifb_W, M.anyOf_W, M.still_W, M.roll_W, M.pick_W, M.thn_W, M.thn_nx, M.thn_rt, M.thn_bk, M.thn_ct, M.fin_W, M.fin_rt, M.finN_W, M.finN_rt, M.finN_nx, M.FK_nx, M.FK_ct, M.FK_bk, M.FK_rt, decide_eq_true_eq, if_true, if_false, Bool.false_eq_true, Bool.not_eq_true', decide_eq_false_iff_not, Bool.not_true, Bool.not_false, ite_not]
  refine w_least b0 (bt.mono (by decide)) (bp.mono (by decide)) (bb.mono (by decide)) ?_
  have rr : p ≠ 0 → 0 ≤ r ∧ r ≤ 999 := fun hp0 => by
    rcases hp with ⟨_, e⟩ | e
    · exact absurd e hp0
    · obtain ⟨h1, h2, _⟩ := root_parts e
      omega
  have gd := mk_gd (t := t) (p := p) (r := r) (b := b) (k := 104) (by decide) b0 bt bp bb rr
  have vd : Vd (mkNm t p r b) := ⟨mkNm_nrm _ _ _ b0, fun hp0 => by
    have p0 := mk_p hp0
    show isRootB (if p = 0 then 0 else r) = true
    rw [if_neg p0]
    rcases hp with ⟨_, e⟩ | e
    · exact absurd e p0
    · exact e⟩
  have lx := cL_len gd
  have acx := cL_ac (mkNm t p r b)
  rw [h3]
  refine thn_gen fun k4 h4 => ?_
  simp only [M.to_W, M.none_W, M.bind_W, M.ret_W, M.need_W, M.the_W, M.ifb_W, M.anyOf_W, M.still_W, M.roll_W, M.pick_W, M.thn_W, M.thn_nx, M.thn_rt, M.thn_bk, M.thn_ct, M.fin_W, M.fin_rt, M.finN_W, M.finN_rt, M.finN_nx, M.FK_nx, M.FK_ct, M.FK_bk, M.FK_rt, decide_eq_true_eq, if_true, if_false, Bool.false_eq_true, Bool.not_eq_true', decide_eq_false_iff_not, Bool.not_true, Bool.not_false, ite_not]
  refine w_ltext (gd.t.mono (by decide)) (gd.p.mono (by decide)) gd.r (gd.b.mono (by decide)) ?_
  rw [h4]
  refine thn_gen fun k5 h5 => ?_
  simp only [M.to_W, M.none_W, M.bind_W, M.ret_W, M.need_W, M.the_W, M.ifb_W, M.anyOf_W, M.still_W, M.roll_W, M.pick_W, M.thn_W, M.thn_nx, M.thn_rt, M.thn_bk, M.thn_ct, M.fin_W, M.fin_rt, M.finN_W, M.finN_rt, M.finN_nx, M.FK_nx, M.FK_ct, M.FK_bk, M.FK_rt, decide_eq_true_eq, if_true, if_false, Bool.false_eq_true, Bool.not_eq_true', decide_eq_false_iff_not, Bool.not_true, Bool.not_false, ite_not]
  refine w_made b0 hp (bb.mono (by decide)) ?_
  clear h1 h2 h3 h4
  generalize hg : mkNm t p r b = g at *
  refine ⟨⟨gd.b0, gd.t.mono (by decide), gd.p.mono (by decide), gd.b.mono (by decide), gd.r, gd.r0⟩, ?_⟩
  rw [if_pos (told_S g)]
  refine w_read_some vd (by omega) ?_
  show (((fD g).canLay0 = true ∧ (fD g).depth ≤ 64) ∧ ((fD g).canLay0 = true ∧ (fD g).depth ≤ 64)) ∧ if (fD g).eqv (fD g) = false then _ else _
  refine ⟨⟨⟨fD_lay g, fD_dep g⟩, fD_lay g, fD_dep g⟩, ?_⟩
  rw [fD_eqv, if_neg (by decide)]
  refine w_told_some vd (by omega) ?_
  show (((fD g).canLay0 = true ∧ (fD g).depth ≤ 64) ∧ ((fD g).canLay0 = true ∧ (fD g).depth ≤ 64)) ∧ if (fD g).eqv (fD g) = false then _ else _
  refine ⟨⟨⟨fD_lay g, fD_dep g⟩, fD_lay g, fD_dep g⟩, ?_⟩
  rw [fD_eqv, if_neg (by decide)]
  rw [h5]
  clear h5
  refine thn_gen fun k6 h6 => ?_
  simp only [M.to_W, M.none_W, M.bind_W, M.ret_W, M.need_W, M.the_W, M.ifb_W, M.anyOf_W, M.still_W, M.roll_W, M.pick_W, M.thn_W, M.thn_nx, M.thn_rt, M.thn_bk, M.thn_ct, M.fin_W, M.fin_rt, M.finN_W, M.finN_rt, M.finN_nx, M.FK_nx, M.FK_ct, M.FK_bk, M.FK_rt, decide_eq_true_eq, if_true, if_false, Bool.false_eq_true, Bool.not_eq_true', decide_eq_false_iff_not, Bool.not_true, Bool.not_false, ite_not]
  refine ⟨⟨by decide, by decide⟩, ?_⟩
  refine forM_W (fun i ρ d' => d ≤ d' ∧ d' ≤ d + 9 * i ∧ ρ = ((), r, (t, p, r, b, ()), (g.t, g.p, g.r, g.b, ()), S (cL g), (), (), (), (), (), (), (), (), (), ())) ?_ (fun i x ρ d' hx hI => ?_) fun ρ d' hI => ?_
  · exact ⟨Nat.le_refl _, Nat.le_add_right _ _, rfl⟩
  · obtain ⟨e1, e2, rfl⟩ := hI
    obtain ⟨hi, rfl⟩ := rng_get hx
    have hi : i < 4 := hi
    clear h6
    show M.W _ _ _ _
    simp only [M.to_W, M.none_W, M.bind_W, M.ret_W, M.need_W, M.the_W, M.ifb_W, M.anyOf_W, M.still_W, M.roll_W, M.pick_W, M.thn_W, M.thn_nx, M.thn_rt, M.thn_bk, M.thn_ct, M.fin_W, M.fin_rt, M.finN_W, M.finN_rt, M.finN_nx, M.FK_nx, M.FK_ct, M.FK_bk, M.FK_rt, decide_eq_true_eq, if_true, if_false, Bool.false_eq_true, Bool.not_eq_true', decide_eq_false_iff_not, Bool.not_true, Bool.not_false, ite_not]
    refine w_bent (by omega) acx (by omega) fun a d2 aca la f1 f2 => ?_
    have hd := dX_facts a (by omega)
    refine w_read_D (by omega) ⟨hd, w_told_D aca (by omega) ⟨hd, ?_⟩⟩
    rw [if_pos rfl]
    exact ⟨by omega, by omega, trivial⟩
  · obtain ⟨e1, e2, rfl⟩ := hI
    rw [rng_len] at e2
    have e3 : d' ≤ d + 36 := by
      have : ((4 : Int) - 0).toNat = 4 := by decide
      rw [this] at e2
      exact e2
    show M.W _ _ _ _
    simp only [M.to_W, M.none_W, M.bind_W, M.ret_W, M.need_W, M.the_W, M.ifb_W, M.anyOf_W, M.still_W, M.roll_W, M.pick_W, M.thn_W, M.thn_nx, M.thn_rt, M.thn_bk, M.thn_ct, M.fin_W, M.fin_rt, M.finN_W, M.finN_rt, M.finN_nx, M.FK_nx, M.FK_ct, M.FK_bk, M.FK_rt, decide_eq_true_eq, if_true, if_false, Bool.false_eq_true, Bool.not_eq_true', decide_eq_false_iff_not, Bool.not_true, Bool.not_false, ite_not]
    rw [h6]
    clear h6
    refine thn_gen fun k7 h7 => ?_
    simp only [M.to_W, M.none_W, M.bind_W, M.ret_W, M.need_W, M.the_W, M.ifb_W, M.anyOf_W, M.still_W, M.roll_W, M.pick_W, M.thn_W, M.thn_nx, M.thn_rt, M.thn_bk, M.thn_ct, M.fin_W, M.fin_rt, M.finN_W, M.finN_rt, M.finN_nx, M.FK_nx, M.FK_ct, M.FK_bk, M.FK_rt, decide_eq_true_eq, if_true, if_false, Bool.false_eq_true, Bool.not_eq_true', decide_eq_false_iff_not, Bool.not_true, Bool.not_false, ite_not]
    refine ⟨by simp, M.lcM_map (g := fun i : Int => S (nI i)) (fun i hi Q q => ?_) ?_⟩
    · show M.W _ _ _ _
      simp only [M.to_W, M.none_W, M.bind_W, M.ret_W, M.need_W, M.the_W, M.ifb_W, M.anyOf_W, M.still_W, M.roll_W, M.pick_W, M.thn_W, M.thn_nx, M.thn_rt, M.thn_bk, M.thn_ct, M.fin_W, M.fin_rt, M.finN_W, M.finN_rt, M.finN_nx, M.FK_nx, M.FK_ct, M.FK_bk, M.FK_rt, decide_eq_true_eq, if_true, if_false, Bool.false_eq_true, Bool.not_eq_true', decide_eq_false_iff_not, Bool.not_true, Bool.not_false, ite_not]
      have bi : Bd 104 i := by
        simp only [List.mem_cons, List.not_mem_nil, or_false] at hi
        rcases hi with rfl | rfl | rfl | rfl
        · exact gd.t
        · exact gd.p
        · exact gd.r.mono (by decide)
        · exact gd.b
      refine ⟨Nat.lt_trans (bd_log bi (by decide)) (by decide), ?_⟩
      rw [s_int]
      exact q
    · refine ⟨(S (nI g.t), S (nI g.p), S (nI g.r), S (nI g.b), ()), rfl, ?_⟩
      rw [h7]
      clear h7
      refine thn_gen fun k8 h8 => ?_
      simp only [M.to_W, M.none_W, M.bind_W, M.ret_W, M.need_W, M.the_W, M.ifb_W, M.anyOf_W, M.still_W, M.roll_W, M.pick_W, M.thn_W, M.thn_nx, M.thn_rt, M.thn_bk, M.thn_ct, M.fin_W, M.fin_rt, M.finN_W, M.finN_rt, M.finN_nx, M.FK_nx, M.FK_ct, M.FK_bk, M.FK_rt, decide_eq_true_eq, if_true, if_false, Bool.false_eq_true, Bool.not_eq_true', decide_eq_false_iff_not, Bool.not_true, Bool.not_false, ite_not]
      have hx : OkL 332 (S (cL g)) := ⟨_, rfl, acx, lx⟩
      have ht : OkL 105 (S (nI g.t)) := ⟨_, rfl, nI_ac _, nI_len gd.t⟩
      have hpp : OkL 105 (S (nI g.p)) := ⟨_, rfl, nI_ac _, nI_len gd.p⟩
      have hrr : OkL 11 (S (nI g.r)) := ⟨_, rfl, nI_ac _, nI_len10 gd.r⟩
      have hbb : OkL 105 (S (nI g.b)) := ⟨_, rfl, nI_ac _, nI_len gd.b⟩
      refine ⟨le2 (by first | assumption | exact OkL.lit (by decide +kernel) | exact OkL.app (by first | assumption | exact OkL.lit (by decide +kernel) | exact OkL.app (by first | assumption | exact OkL.lit (by decide +kernel) | exact OkL.app (by first | assumption | exact OkL.lit (by decide +kernel) | exact OkL.app (by first | assumption | exact OkL.lit (by decide +kernel)) (by first | assumption | exact OkL.lit (by decide +kernel))) (by first | assumption | exact OkL.lit (by decide +kernel))) (by first | assumption | exact OkL.lit (by decide +kernel))) (by first | assumption | exact OkL.lit (by decide +kernel))) (by first | assumption | exact OkL.lit (by decide +kernel) | exact OkL.app (by first | assumption | exact OkL.lit (by decide +kernel) | exact OkL.app (by first | assumption | exact OkL.lit (by decide +kernel) | exact OkL.app (by first | assumption | exact OkL.lit (by decide +kernel) | exact OkL.app (by first | assumption | exact OkL.lit (by decide +kernel)) (by first | assumption | exact OkL.lit (by decide +kernel))) (by first | assumption | exact OkL.lit (by decide +kernel))) (by first | assumption | exact OkL.lit (by decide +kernel))) (by first | assumption | exact OkL.lit (by decide +kernel))) (by decide), le2 (by first | assumption | exact OkL.lit (by decide +kernel) | exact OkL.app (by first | assumption | exact OkL.lit (by decide +kernel) | exact OkL.app (by first | assumption | exact OkL.lit (by decide +kernel) | exact OkL.app (by first | assumption | exact OkL.lit (by decide +kernel) | exact OkL.app (by first | assumption | exact OkL.lit (by decide +kernel)) (by first | assumption | exact OkL.lit (by decide +kernel))) (by first | assumption | exact OkL.lit (by decide +kernel))) (by first | assumption | exact OkL.lit (by decide +kernel))) (by first | assumption | exact OkL.lit (by decide +kernel))) (by first | assumption | exact OkL.lit (by decide +kernel) | exact OkL.app (by first | assumption | exact OkL.lit (by decide +kernel) | exact OkL.app (by first | assumption | exact OkL.lit (by decide +kernel) | exact OkL.app (by first | assumption | exact OkL.lit (by decide +kernel) | exact OkL.app (by first | assumption | exact OkL.lit (by decide +kernel)) (by first | assumption | exact OkL.lit (by decide +kernel))) (by first | assumption | exact OkL.lit (by decide +kernel))) (by first | assumption | exact OkL.lit (by decide +kernel))) (by first | assumption | exact OkL.lit (by decide +kernel))) (by decide), le2 (by first | assumption | exact OkL.lit (by decide +kernel) | exact OkL.app (by first | assumption | exact OkL.lit (by decide +kernel) | exact OkL.app (by first | assumption | exact OkL.lit (by decide +kernel) | exact OkL.app (by first | assumption | exact OkL.lit (by decide +kernel) | exact OkL.app (by first | assumption | exact OkL.lit (by decide +kernel)) (by first | assumption | exact OkL.lit (by decide +kernel))) (by first | assumption | exact OkL.lit (by decide +kernel))) (by first | assumption | exact OkL.lit (by decide +kernel))) (by first | assumption | exact OkL.lit (by decide +kernel))) (by first | assumption | exact OkL.lit (by decide +kernel) | exact OkL.app (by first | assumption | exact OkL.lit (by decide +kernel) | exact OkL.app (by first | assumption | exact OkL.lit (by decide +kernel) | exact OkL.app (by first | assumption | exact OkL.lit (by decide +kernel) | exact OkL.app (by first | assumption | exact OkL.lit (by decide +kernel)) (by first | assumption | exact OkL.lit (by decide +kernel))) (by first | assumption | exact OkL.lit (by decide +kernel))) (by first | assumption | exact OkL.lit (by decide +kernel))) (by first | assumption | exact OkL.lit (by decide +kernel))) (by decide), le2 (by first | assumption | exact OkL.lit (by decide +kernel) | exact OkL.app (by first | assumption | exact OkL.lit (by decide +kernel) | exact OkL.app (by first | assumption | exact OkL.lit (by decide +kernel) | exact OkL.app (by first | assumption | exact OkL.lit (by decide +kernel) | exact OkL.app (by first | assumption | exact OkL.lit (by decide +kernel)) (by first | assumption | exact OkL.lit (by decide +kernel))) (by first | assumption | exact OkL.lit (by decide +kernel))) (by first | assumption | exact OkL.lit (by decide +kernel))) (by first | assumption | exact OkL.lit (by decide +kernel))) (by first | assumption | exact OkL.lit (by decide +kernel) | exact OkL.app (by first | assumption | exact OkL.lit (by decide +kernel) | exact OkL.app (by first | assumption | exact OkL.lit (by decide +kernel) | exact OkL.app (by first | assumption | exact OkL.lit (by decide +kernel) | exact OkL.app (by first | assumption | exact OkL.lit (by decide +kernel)) (by first | assumption | exact OkL.lit (by decide +kernel))) (by first | assumption | exact OkL.lit (by decide +kernel))) (by first | assumption | exact OkL.lit (by decide +kernel))) (by first | assumption | exact OkL.lit (by decide +kernel))) (by decide), le2 (by first | assumption | exact OkL.lit (by decide +kernel) | exact OkL.app (by first | assumption | exact OkL.lit (by decide +kernel) | exact OkL.app (by first | assumption | exact OkL.lit (by decide +kernel) | exact OkL.app (by first | assumption | exact OkL.lit (by decide +kernel) | exact OkL.app (by first | assumption | exact OkL.lit (by decide +kernel)) (by first | assumption | exact OkL.lit (by decide +kernel))) (by first | assumption | exact OkL.lit (by decide +kernel))) (by first | assumption | exact OkL.lit (by decide +kernel))) (by first | assumption | exact OkL.lit (by decide +kernel))) (by first | assumption | exact OkL.lit (by decide +kernel) | exact OkL.app (by first | assumption | exact OkL.lit (by decide +kernel) | exact OkL.app (by first | assumption | exact OkL.lit (by decide +kernel) | exact OkL.app (by first | assumption | exact OkL.lit (by decide +kernel) | exact OkL.app (by first | assumption | exact OkL.lit (by decide +kernel)) (by first | assumption | exact OkL.lit (by decide +kernel))) (by first | assumption | exact OkL.lit (by decide +kernel))) (by first | assumption | exact OkL.lit (by decide +kernel))) (by first | assumption | exact OkL.lit (by decide +kernel))) (by decide), le2 (by first | assumption | exact OkL.lit (by decide +kernel) | exact OkL.app (by first | assumption | exact OkL.lit (by decide +kernel) | exact OkL.app (by first | assumption | exact OkL.lit (by decide +kernel) | exact OkL.app (by first | assumption | exact OkL.lit (by decide +kernel) | exact OkL.app (by first | assumption | exact OkL.lit (by decide +kernel)) (by first | assumption | exact OkL.lit (by decide +kernel))) (by first | assumption | exact OkL.lit (by decide +kernel))) (by first | assumption | exact OkL.lit (by decide +kernel))) (by first | assumption | exact OkL.lit (by decide +kernel))) (by first | assumption | exact OkL.lit (by decide +kernel) | exact OkL.app (by first | assumption | exact OkL.lit (by decide +kernel) | exact OkL.app (by first | assumption | exact OkL.lit (by decide +kernel) | exact OkL.app (by first | assumption | exact OkL.lit (by decide +kernel) | exact OkL.app (by first | assumption | exact OkL.lit (by decide +kernel)) (by first | assumption | exact OkL.lit (by decide +kernel))) (by first | assumption | exact OkL.lit (by decide +kernel))) (by first | assumption | exact OkL.lit (by decide +kernel))) (by first | assumption | exact OkL.lit (by decide +kernel))) (by decide), ?_⟩
      generalize ho : [Str.ofString "", Str.ofString "r", Str.ofString "r2", Str.ofString "1r",
                        Str.ofString "+" ++ S (cL g), S (cL g) ++ Str.ofString " ", Str.ofString " " ++ S (cL g),
                        Str.ofString "(" ++ S (cL g) ++ Str.ofString ")", S (nI g.t) ++ Str.ofString "/1",
                        Str.ofString "-0", Str.ofString "0r2", Str.ofString "1r1", Str.ofString "1r4"] = odd1
      have a1 : AllOk odd1 := by
        rw [← ho]
        repeat (refine AllOk.cons (by first | assumption | exact OkL.lit (by decide +kernel) | exact OkL.app (by first | assumption | exact OkL.lit (by decide +kernel) | exact OkL.app (by first | assumption | exact OkL.lit (by decide +kernel) | exact OkL.app (by first | assumption | exact OkL.lit (by decide +kernel) | exact OkL.app (by first | assumption | exact OkL.lit (by decide +kernel)) (by first | assumption | exact OkL.lit (by decide +kernel))) (by first | assumption | exact OkL.lit (by decide +kernel))) (by first | assumption | exact OkL.lit (by decide +kernel))) (by first | assumption | exact OkL.lit (by decide +kernel))) (by decide) ?_)
        exact .nil
      have l1 : odd1.length = 13 := by rw [← ho]; rfl
      clear ho
      rw [h8]
      clear h8
      refine thn_gen fun k9 h9 => ?_
      simp only [M.to_W, M.none_W, M.bind_W, M.ret_W, M.need_W, M.the_W, M.ifb_W, M.anyOf_W, M.still_W, M.roll_W, M.pick_W, M.thn_W, M.thn_nx, M.thn_rt, M.thn_bk, M.thn_ct, M.fin_W, M.fin_rt, M.finN_W, M.finN_rt, M.finN_nx, M.FK_nx, M.FK_ct, M.FK_bk, M.FK_rt, decide_eq_true_eq, if_true, if_false, Bool.false_eq_true, Bool.not_eq_true', decide_eq_false_iff_not, Bool.not_true, Bool.not_false, ite_not]
      refine ⟨by rw [l1]; show 13 + 12 ≤ _; omega, ?_⟩
      generalize ho : odd1 ++ [Str.ofString "1r1009", Str.ofString "1r02", Str.ofString "00", Str.ofString "2+0r3",
                Str.ofString "0+1r3", Str.ofString "1+-2r3", Str.ofString "1r2+3", Str.ofString "2/4",
                Str.ofString "(2+4r5)/6", Str.ofString "1/0", Str.ofString "1/-2", Str.ofString "1r2r3"] = odd2
      have a2 : AllOk odd2 := by
        rw [← ho]
        refine a1.app ?_
        repeat (refine AllOk.cons (by first | assumption | exact OkL.lit (by decide +kernel) | exact OkL.app (by first | assumption | exact OkL.lit (by decide +kernel) | exact OkL.app (by first | assumption | exact OkL.lit (by decide +kernel) | exact OkL.app (by first | assumption | exact OkL.lit (by decide +kernel) | exact OkL.app (by first | assumption | exact OkL.lit (by decide +kernel)) (by first | assumption | exact OkL.lit (by decide +kernel))) (by first | assumption | exact OkL.lit (by decide +kernel))) (by first | assumption | exact OkL.lit (by decide +kernel))) (by first | assumption | exact OkL.lit (by decide +kernel))) (by decide) ?_)
        exact .nil
      have l2 : odd2.length = 25 := by rw [← ho, List.length_append, l1]; rfl
      clear ho
      rw [h9]
      clear h9
      refine thn_gen fun k10 h10 => ?_
      simp only [M.to_W, M.none_W, M.bind_W, M.ret_W, M.need_W, M.the_W, M.ifb_W, M.anyOf_W, M.still_W, M.roll_W, M.pick_W, M.thn_W, M.thn_nx, M.thn_rt, M.thn_bk, M.thn_ct, M.fin_W, M.fin_rt, M.finN_W, M.finN_rt, M.finN_nx, M.FK_nx, M.FK_ct, M.FK_bk, M.FK_rt, decide_eq_true_eq, if_true, if_false, Bool.false_eq_true, Bool.not_eq_true', decide_eq_false_iff_not, Bool.not_true, Bool.not_false, ite_not]
      refine ⟨le2 (by first | assumption | exact OkL.lit (by decide +kernel) | exact OkL.app (by first | assumption | exact OkL.lit (by decide +kernel) | exact OkL.app (by first | assumption | exact OkL.lit (by decide +kernel) | exact OkL.app (by first | assumption | exact OkL.lit (by decide +kernel) | exact OkL.app (by first | assumption | exact OkL.lit (by decide +kernel)) (by first | assumption | exact OkL.lit (by decide +kernel))) (by first | assumption | exact OkL.lit (by decide +kernel))) (by first | assumption | exact OkL.lit (by decide +kernel))) (by first | assumption | exact OkL.lit (by decide +kernel))) (by first | assumption | exact OkL.lit (by decide +kernel) | exact OkL.app (by first | assumption | exact OkL.lit (by decide +kernel) | exact OkL.app (by first | assumption | exact OkL.lit (by decide +kernel) | exact OkL.app (by first | assumption | exact OkL.lit (by decide +kernel) | exact OkL.app (by first | assumption | exact OkL.lit (by decide +kernel)) (by first | assumption | exact OkL.lit (by decide +kernel))) (by first | assumption | exact OkL.lit (by decide +kernel))) (by first | assumption | exact OkL.lit (by decide +kernel))) (by first | assumption | exact OkL.lit (by decide +kernel))) (by decide), le2 (by first | assumption | exact OkL.lit (by decide +kernel) | exact OkL.app (by first | assumption | exact OkL.lit (by decide +kernel) | exact OkL.app (by first | assumption | exact OkL.lit (by decide +kernel) | exact OkL.app (by first | assumption | exact OkL.lit (by decide +kernel) | exact OkL.app (by first | assumption | exact OkL.lit (by decide +kernel)) (by first | assumption | exact OkL.lit (by decide +kernel))) (by first | assumption | exact OkL.lit (by decide +kernel))) (by first | assumption | exact OkL.lit (by decide +kernel))) (by first | assumption | exact OkL.lit (by decide +kernel))) (by first | assumption | exact OkL.lit (by decide +kernel) | exact OkL.app (by first | assumption | exact OkL.lit (by decide +kernel) | exact OkL.app (by first | assumption | exact OkL.lit (by decide +kernel) | exact OkL.app (by first | assumption | exact OkL.lit (by decide +kernel) | exact OkL.app (by first | assumption | exact OkL.lit (by decide +kernel)) (by first | assumption | exact OkL.lit (by decide +kernel))) (by first | assumption | exact OkL.lit (by decide +kernel))) (by first | assumption | exact OkL.lit (by decide +kernel))) (by first | assumption | exact OkL.lit (by decide +kernel))) (by decide), le2 (by first | assumption | exact OkL.lit (by decide +kernel) | exact OkL.app (by first | assumption | exact OkL.lit (by decide +kernel) | exact OkL.app (by first | assumption | exact OkL.lit (by decide +kernel) | exact OkL.app (by first | assumption | exact OkL.lit (by decide +kernel) | exact OkL.app (by first | assumption | exact OkL.lit (by decide +kernel)) (by first | assumption | exact OkL.lit (by decide +kernel))) (by first | assumption | exact OkL.lit (by decide +kernel))) (by first | assumption | exact OkL.lit (by decide +kernel))) (by first | assumption | exact OkL.lit (by decide +kernel))) (by first | assumption | exact OkL.lit (by decide +kernel) | exact OkL.app (by first | assumption | exact OkL.lit (by decide +kernel) | exact OkL.app (by first | assumption | exact OkL.lit (by decide +kernel) | exact OkL.app (by first | assumption | exact OkL.lit (by decide +kernel) | exact OkL.app (by first | assumption | exact OkL.lit (by decide +kernel)) (by first | assumption | exact OkL.lit (by decide +kernel))) (by first | assumption | exact OkL.lit (by decide +kernel))) (by first | assumption | exact OkL.lit (by decide +kernel))) (by first | assumption | exact OkL.lit (by decide +kernel))) (by decide), le2 (by first | assumption | exact OkL.lit (by decide +kernel) | exact OkL.app (by first | assumption | exact OkL.lit (by decide +kernel) | exact OkL.app (by first | assumption | exact OkL.lit (by decide +kernel) | exact OkL.app (by first | assumption | exact OkL.lit (by decide +kernel) | exact OkL.app (by first | assumption | exact OkL.lit (by decide +kernel)) (by first | assumption | exact OkL.lit (by decide +kernel))) (by first | assumption | exact OkL.lit (by decide +kernel))) (by first | assumption | exact OkL.lit (by decide +kernel))) (by first | assumption | exact OkL.lit (by decide +kernel))) (by first | assumption | exact OkL.lit (by decide +kernel) | exact OkL.app (by first | assumption | exact OkL.lit (by decide +kernel) | exact OkL.app (by first | assumption | exact OkL.lit (by decide +kernel) | exact OkL.app (by first | assumption | exact OkL.lit (by decide +kernel) | exact OkL.app (by first | assumption | exact OkL.lit (by decide +kernel)) (by first | assumption | exact OkL.lit (by decide +kernel))) (by first | assumption | exact OkL.lit (by decide +kernel))) (by first | assumption | exact OkL.lit (by decide +kernel))) (by first | assumption | exact OkL.lit (by decide +kernel))) (by decide), le2 (by first | assumption | exact OkL.lit (by decide +kernel) | exact OkL.app (by first | assumption | exact OkL.lit (by decide +kernel) | exact OkL.app (by first | assumption | exact OkL.lit (by decide +kernel) | exact OkL.app (by first | assumption | exact OkL.lit (by decide +kernel) | exact OkL.app (by first | assumption | exact OkL.lit (by decide +kernel)) (by first | assumption | exact OkL.lit (by decide +kernel))) (by first | assumption | exact OkL.lit (by decide +kernel))) (by first | assumption | exact OkL.lit (by decide +kernel))) (by first | assumption | exact OkL.lit (by decide +kernel))) (by first | assumption | exact OkL.lit (by decide +kernel) | exact OkL.app (by first | assumption | exact OkL.lit (by decide +kernel) | exact OkL.app (by first | assumption | exact OkL.lit (by decide +kernel) | exact OkL.app (by first | assumption | exact OkL.lit (by decide +kernel) | exact OkL.app (by first | assumption | exact OkL.lit (by decide +kernel)) (by first | assumption | exact OkL.lit (by decide +kernel))) (by first | assumption | exact OkL.lit (by decide +kernel))) (by first | assumption | exact OkL.lit (by decide +kernel))) (by first | assumption | exact OkL.lit (by decide +kernel))) (by decide), le2 (by first | assumption | exact OkL.lit (by decide +kernel) | exact OkL.app (by first | assumption | exact OkL.lit (by decide +kernel) | exact OkL.app (by first | assumption | exact OkL.lit (by decide +kernel) | exact OkL.app (by first | assumption | exact OkL.lit (by decide +kernel) | exact OkL.app (by first | assumption | exact OkL.lit (by decide +kernel)) (by first | assumption | exact OkL.lit (by decide +kernel))) (by first | assumption | exact OkL.lit (by decide +kernel))) (by first | assumption | exact OkL.lit (by decide +kernel))) (by first | assumption | exact OkL.lit (by decide +kernel))) (by first | assumption | exact OkL.lit (by decide +kernel) | exact OkL.app (by first | assumption | exact OkL.lit (by decide +kernel) | exact OkL.app (by first | assumption | exact OkL.lit (by decide +kernel) | exact OkL.app (by first | assumption | exact OkL.lit (by decide +kernel) | exact OkL.app (by first | assumption | exact OkL.lit (by decide +kernel)) (by first | assumption | exact OkL.lit (by decide +kernel))) (by first | assumption | exact OkL.lit (by decide +kernel))) (by first | assumption | exact OkL.lit (by decide +kernel))) (by first | assumption | exact OkL.lit (by decide +kernel))) (by decide), le2 (by first | assumption | exact OkL.lit (by decide +kernel) | exact OkL.app (by first | assumption | exact OkL.lit (by decide +kernel) | exact OkL.app (by first | assumption | exact OkL.lit (by decide +kernel) | exact OkL.app (by first | assumption | exact OkL.lit (by decide +kernel) | exact OkL.app (by first | assumption | exact OkL.lit (by decide +kernel)) (by first | assumption | exact OkL.lit (by decide +kernel))) (by first | assumption | exact OkL.lit (by decide +kernel))) (by first | assumption | exact OkL.lit (by decide +kernel))) (by first | assumption | exact OkL.lit (by decide +kernel))) (by first | assumption | exact OkL.lit (by decide +kernel) | exact OkL.app (by first | assumption | exact OkL.lit (by decide +kernel) | exact OkL.app (by first | assumption | exact OkL.lit (by decide +kernel) | exact OkL.app (by first | assumption | exact OkL.lit (by decide +kernel) | exact OkL.app (by first | assumption | exact OkL.lit (by decide +kernel)) (by first | assumption | exact OkL.lit (by decide +kernel))) (by first | assumption | exact OkL.lit (by decide +kernel))) (by first | assumption | exact OkL.lit (by decide +kernel))) (by first | assumption | exact OkL.lit (by decide +kernel))) (by decide), by rw [l2]; show 25 + 9 ≤ _; omega, ?_⟩
      generalize ho : odd2 ++ [S (nI g.t) ++ Str.ofString "+" ++ S (nI g.p) ++ Str.ofString "r" ++ S (nI g.r),
                              Str.ofString "(" ++ S (nI g.t) ++ Str.ofString ")/" ++ S (nI g.b), Str.ofString "1r8",
                              Str.ofString "3/", Str.ofString "/3", Str.ofString "()", Str.ofString "1.5",
                              Str.ofString "1e3", Str.ofString "()/2"] = odd3
      have a3 : AllOk odd3 := by
        rw [← ho]
        refine a2.app ?_
        repeat (refine AllOk.cons (by first | assumption | exact OkL.lit (by decide +kernel) | exact OkL.app (by first | assumption | exact OkL.lit (by decide +kernel) | exact OkL.app (by first | assumption | exact OkL.lit (by decide +kernel) | exact OkL.app (by first | assumption | exact OkL.lit (by decide +kernel) | exact OkL.app (by first | assumption | exact OkL.lit (by decide +kernel)) (by first | assumption | exact OkL.lit (by decide +kernel))) (by first | assumption | exact OkL.lit (by decide +kernel))) (by first | assumption | exact OkL.lit (by decide +kernel))) (by first | assumption | exact OkL.lit (by decide +kernel))) (by decide) ?_)
        exact .nil
      have l3 : odd3.length = 34 := by rw [← ho, List.length_append, l2]; rfl
      clear ho
      rw [h10]
      clear h10
      refine thn_gen fun k11 h11 => ?_
      simp only [M.to_W, M.none_W, M.bind_W, M.ret_W, M.need_W, M.the_W, M.ifb_W, M.anyOf_W, M.still_W, M.roll_W, M.pick_W, M.thn_W, M.thn_nx, M.thn_rt, M.thn_bk, M.thn_ct, M.fin_W, M.fin_rt, M.finN_W, M.finN_rt, M.finN_nx, M.FK_nx, M.FK_ct, M.FK_bk, M.FK_rt, decide_eq_true_eq, if_true, if_false, Bool.false_eq_true, Bool.not_eq_true', decide_eq_false_iff_not, Bool.not_true, Bool.not_false, ite_not]
      refine ⟨by omega, M.lcM_filter (g := fun _ => none) (fun s hs Q q => ?_) ?_⟩
      · obtain ⟨a, rfl, aca, la⟩ := a3 s hs
        have hd := dX_facts a la
        show M.W _ _ _ _
        simp only [M.to_W, M.none_W, M.bind_W, M.ret_W, M.need_W, M.the_W, M.ifb_W, M.anyOf_W, M.still_W, M.roll_W, M.pick_W, M.thn_W, M.thn_nx, M.thn_rt, M.thn_bk, M.thn_ct, M.fin_W, M.fin_rt, M.finN_W, M.finN_rt, M.finN_nx, M.FK_nx, M.FK_ct, M.FK_bk, M.FK_rt, decide_eq_true_eq, if_true, if_false, Bool.false_eq_true, Bool.not_eq_true', decide_eq_false_iff_not, Bool.not_true, Bool.not_false, ite_not]
        refine w_read_D la ⟨hd, w_told_D aca la ⟨hd, ?_⟩⟩
        simpa using q
      · have e0 : odd3.filterMap (fun _ => (none : Option Str)) = [] := List.filterMap_eq_nil_iff.mpr fun _ _ => rfl
        rw [e0]
        have ln : (PyData.list (([] : List Str).map PyData.str)).canLay0 = true := by simp [PyData.canLay0, PyData.canLayAll0]
        refine ⟨⟨ln, ln⟩, ?_⟩
        rw [if_neg (by simp [PyData.eqv, PyData.eqvAll])]
        rw [h11]
        clear h11
        refine thn_gen fun k12 h12 => ?_
        simp only [M.to_W, M.none_W, M.bind_W, M.ret_W, M.need_W, M.the_W, M.ifb_W, M.anyOf_W, M.still_W, M.roll_W, M.pick_W, M.thn_W, M.thn_nx, M.thn_rt, M.thn_bk, M.thn_ct, M.fin_W, M.fin_rt, M.finN_W, M.finN_rt, M.finN_nx, M.FK_nx, M.FK_ct, M.FK_bk, M.FK_rt, decide_eq_true_eq, if_true, if_false, Bool.false_eq_true, Bool.not_eq_true', decide_eq_false_iff_not, Bool.not_true, Bool.not_false, ite_not]
        refine ⟨by omega, by simp, by simp, fun v hv => ?_⟩
        rw [h12]
        clear h12
        have bad : ∀ e, v = .inl e → isD "str" e = false := fun e he => by
          subst he
          simp only [List.mem_cons, List.not_mem_nil, or_false, Sum.inl.injEq, reduceCtorEq, false_or] at hv
          rcases hv with rfl | rfl | rfl | rfl | rfl | rfl | rfl <;> rfl
        simp only [M.to_W, M.none_W, M.bind_W, M.ret_W, M.need_W, M.the_W, M.ifb_W, M.anyOf_W, M.still_W, M.roll_W, M.pick_W, M.thn_W, M.thn_nx, M.thn_rt, M.thn_bk, M.thn_ct, M.fin_W, M.fin_rt, M.finN_W, M.finN_rt, M.finN_nx, M.FK_nx, M.FK_ct, M.FK_bk, M.FK_rt, decide_eq_true_eq, if_true, if_false, Bool.false_eq_true, Bool.not_eq_true', decide_eq_false_iff_not, Bool.not_true, Bool.not_false, ite_not]
        refine w_read_bad bad ?_
        exact q _ (by omega)
end
end PF2
namespace PF
open PySem PySem.Spec PyProof.Rows L2 SlX
theorem gerr_of {P : Program} {K : PySem.W.Frag} {mg : Str → Option Value} {x f : Str} {C fI : Addr} {B newId i : String} {bm bo : List Value} {qual vn msg file : Str} {params : Arguments} {body : List Stmt} {scope : Scope} {p0 p1 p2 p3 pe p5 p6 p7 p8 pc : Pos} {j : Nat} {pl : Sem Bool}
    (T : PEI.TailB B newId i bm) (t : InitT qual vn f msg params body scope p0 p1 p2 p3 pe p5 p6 p7 p8 pc j pl) (pf : P.main.file = file) (pt : (P.main.scope.names.lookup ("super" : Str)).isSome = false)
    (ht : PySem.W.excTail bm bo = true) (hal : PySem.W.alongIn K "__init__" bo = some (some (.builtin i))) (e1 : PEO.errB K C bo newId = true) (e2 : PEO.fwC K fI = PEO.fwCV "__init__" qual params body scope) (e3 : PEO.codeB K fI = true) (e4 : PySem.W.codeIn K (.ref (PEO.codeA K fI)) qual = true) (e5 : PEO.cellB K (PEO.cellA K fI) C = true) (e6 : PEO.fileB K (PEO.codeA K fI) file = true)
    (e7 : PySem.W.nsIn K cStatics "thirdparty.any" = some none) (e8 : PySem.W.findIn K (.ref C) "__setattr__" = some (some (.builtin "object.__setattr__"))) (e9 : PySem.W.findIn K (.ref C) f = some none) (e10 : PySem.W.excOver K C bm = true)
    (e11 : PySem.W.subIn K (.ref C) (.type "BaseException") = some true) (e12 : PySem.W.typeIn K (.ref C) = some (.type "type")) (e13 : PySem.W.keepIn K (.ref C) = true) (e14 : PySem.W.findIn K (.ref C) "__init__" = some (some (.ref fI))) (e15 : PySem.W.typeIn K (.ref fI) = some (.type "function"))
    (gl : mg x = some (.ref C)) (sup : mg "super" = none) (xf : xfB K C = true) : GErr P K mg x f C := by
  obtain ⟨oc, od, sl, kV, dc, pm, an, ct, lk⟩ := PEO.fwC_ok e2 e3
  obtain ⟨ccl, cdd, vs, ccs, tf, h1, h2⟩ := PEO.fileB_ok e6
  obtain ⟨nm, q, N, bs, sn, sub, ab, col, dd, k0, k1, k2, k3, k5, hC⟩ := PEO.errB_ok e1
  exact ⟨⟨B, newId, i, bm, fI, PEO.cellA K fI, PEO.codeA K fI, qual, vn, msg, params, body, scope, kV, dc, pm, ct, an, p0, p1, p2, p3, pe, p5, p6, p7, p8, pc, j, pl, T,
    ⟨⟨⟨bo, nm, q, N, bs, sn, sub, ab, col, dd, k0, k1, k2, k3, k5, hC, fun X => PySem.W.excTail_contains X _ ht, hal⟩, ⟨oc, od, sl, lk⟩, e4, PEO.cellB_ok e5, ⟨ccl, cdd, vs, ccs, tf, h1, by rw [pf]; exact h2⟩, pt, e7, e8, e9, e10⟩, e11, e12, e13, e14, e15⟩, t⟩, gl, sup, xfB_ok xf, e9⟩
end PF
set_option maxHeartbeats 4000000
namespace PF2
open PF PySem PySem.Spec PyProof.Rows L2 SlX
theorem init_ParseError : ∃ p0 p1 p2 p3 pe p5 p6 p7 p8 pc j pl, InitT "ParseError.__init__" "index" "index" "a text is none" (defArgs (inClass (topS 4) 0)) (defBody (inClass (topS 4) 0)) (defScope (inClass (topS 4) 0)) p0 p1 p2 p3 pe p5 p6 p7 p8 pc j pl :=
  ⟨_, _, _, _, _, _, _, _, _, _, _, _, ⟨rfl, by decide +kernel, by decide +kernel, by decide +kernel, by decide +kernel, rfl, by decide +kernel, rfl, rfl, by decide +kernel, by decide +kernel, by decide +kernel, fun L fI cc cdv => rfl, fun L fI cc cdv => rfl, fun L fI cc cdv => rfl, fun L fI cc cdv => rfl, fun kV doc pm cdv ct a u an cc => rfl⟩⟩
end PF2
set_option maxHeartbeats 1000000
namespace PF2
open PF PySem PySem.Spec PyProof.Rows L2 SlX TX SX TL
section
variable {c : Nat} {X : Er → Prop}
theorem w_rd_some {g : Nm} {Q : Nm → Nat → Prop} (v : Vd g) (hl : (cL g).length ≤ 1000) (q : Q g c) : M.W (m_Number_read ((), S (cL g), ())) c Q X := by
  simp only [m_Number_read, b_Number_read, M.to_W, M.none_W, M.bind_W, M.ret_W, M.need_W, M.the_W, M.ifb_W, M.anyOf_W, M.still_W, M.roll_W, M.pick_W, M.thn_W, M.thn_nx, M.thn_rt, M.thn_bk, M.thn_ct, M.fin_W, M.fin_rt, M.finN_W, M.finN_rt, M.finN_nx, M.FK_nx, M.FK_ct, M.FK_bk, M.FK_rt, decide_eq_true_eq, if_true, if_false, Bool.false_eq_true, Bool.not_eq_true', decide_eq_false_iff_not, Bool.not_true, Bool.not_false, ite_not]
  refine w_nin (by omega) fun ob ot op or lt r => ?_
  rw [nin_cL v hl r]
  rw [if_neg (by simp)]
  refine ⟨g, rfl, v.gd hl, ?_⟩
  rw [if_pos (told_S g)]
  exact ⟨g, rfl, q⟩
theorem vd_mk {t p r b : Int} (b0 : b ≠ 0) (hp : okRoot r p) : Vd (mkNm t p r b) := ⟨mkNm_nrm _ _ _ b0, fun hp0 => by
  have p0 := mk_p hp0
  show isRootB (if p = 0 then 0 else r) = true
  rw [if_neg p0]
  rcases hp with ⟨_, e⟩ | e
  · exact absurd e p0
  · exact e⟩
def tens : List Str := [Str.ofString "3", Str.ofString "-3/4", Str.ofString "1r5", Str.ofString "-1r2", Str.ofString "2+1r5", Str.ofString "2-13r7", Str.ofString "-1r5/2", Str.ofString "(1+1r5)/2", Str.ofString "(-1-1r5)/2", Str.ofString "0"]
theorem tens_ok : ∀ s ∈ tens, ∃ g, Vd g ∧ s = S (cL g) ∧ (cL g).length ≤ 20 := fun s h => by
  unfold tens at h
  simp only [List.mem_cons, List.not_mem_nil, or_false] at h
  rcases h with rfl | rfl | rfl | rfl | rfl | rfl | rfl | rfl | rfl | rfl
  · exact ⟨mkNm 3 0 0 1, vd_mk (by decide) (.inl ⟨rfl, rfl⟩), by decide +kernel, by decide +kernel⟩
  · exact ⟨mkNm (-3) 0 0 4, vd_mk (by decide) (.inl ⟨rfl, rfl⟩), by decide +kernel, by decide +kernel⟩
  · exact ⟨mkNm 0 1 5 1, vd_mk (by decide) (.inr (by decide +kernel)), by decide +kernel, by decide +kernel⟩
  · exact ⟨mkNm 0 (-1) 2 1, vd_mk (by decide) (.inr (by decide +kernel)), by decide +kernel, by decide +kernel⟩
  · exact ⟨mkNm 2 1 5 1, vd_mk (by decide) (.inr (by decide +kernel)), by decide +kernel, by decide +kernel⟩
  · exact ⟨mkNm 2 (-13) 7 1, vd_mk (by decide) (.inr (by decide +kernel)), by decide +kernel, by decide +kernel⟩
  · exact ⟨mkNm 0 (-1) 5 2, vd_mk (by decide) (.inr (by decide +kernel)), by decide +kernel, by decide +kernel⟩
  · exact ⟨mkNm 1 1 5 2, vd_mk (by decide) (.inr (by decide +kernel)), by decide +kernel, by decide +kernel⟩
  · exact ⟨mkNm (-1) (-1) 5 2, vd_mk (by decide) (.inr (by decide +kernel)), by decide +kernel, by decide +kernel⟩
  · exact ⟨mkNm 0 0 0 1, vd_mk (by decide) (.inl ⟨rfl, rfl⟩), by decide +kernel, by decide +kernel⟩
def nines : List Nat := List.replicate 1000 57
def nin : Int := 10 ^ 1000 - 1
theorem nines_nI : nines = nI nin := by decide +kernel
def nG : Nm := mkNm nin 0 0 1
theorem nG_eq : nG = ⟨nin, 0, 0, 1⟩ := by decide +kernel
theorem nG_vd : Vd nG := vd_mk (by decide) (.inl ⟨rfl, rfl⟩)
theorem nG_cL : cL nG = nines := by
  rw [nines_nI, nG_eq]
  unfold cL unL
  rw [if_pos rfl, if_pos rfl, List.append_nil]
theorem mul_ok {n : Int} (h : n = 1000 ∨ n = 1001) : MulOk (S [57]) n := by
  rcases h with rfl | rfl
  · exact ⟨by decide, fun _ _ => by decide, fun _ _ => by decide⟩
  · exact ⟨by decide, fun _ _ => by decide, fun _ _ => by decide⟩
theorem w_read_long {n : Nat} {Q : PyData → Nat → Prop} (h : 1000 < n) (hl : n ≤ 3000) (q : Q .none c) : M.W (m__law_read (.inl (.str (S (List.replicate n 57))), ())) c Q X := by
  have mem : ∀ s, s ∈ List.replicate n 57 → s = 57 := fun s m => List.eq_of_mem_replicate m
  refine w_caught (fun {Q X} hx => w_rdX (by rw [List.length_replicate]; exact hl) fun o ob ot op or lt r e => ?_) q
  have n0 : o = none := by
    obtain ⟨y, z, h1, h2, h3⟩ := r.ex
    have ey : y = List.replicate n 57 := by
      rcases h1 with ⟨_, e, _⟩ | ⟨u, e, _⟩
      · exact e
      · have := mem 47 (by rw [e]; simp)
        cases this
    subst ey
    have ez : z = List.replicate n 57 := by
      rcases h2 with ⟨e, _⟩ | e
      · exact e
      · have := mem 40 (by rw [e]; simp)
        cases this
    subst ez
    have et : ot = none := by
      rcases h3 with ⟨_, _, e, _⟩ | ⟨_, ah, bh, f, l, e, _⟩
      · have ne : List.replicate n 57 ≠ [] := fun z => by
          have := congrArg List.length z
          rw [List.length_replicate] at this
          simp at this
          omega
        rw [if_neg ne] at e
        rw [e]
        unfold pI
        have hd : (List.replicate n 57).head? ≠ some 45 := fun z => by
          have := mem 45 (List.mem_of_mem_head? z)
          cases this
        unfold sg
        rw [if_neg hd, if_neg (fun z => by
          have := z.2.1
          rw [List.length_replicate] at this
          omega)]
      · have := mem 114 (by rw [e]; simp)
        cases this
    subst et
    rw [← e]
    unfold finN
    cases ob <;> rfl
  subst n0
  exact ⟨fun n z => by (cases z), fun n z => by (cases z), fun _ => hx⟩
theorem k57 : Str.ofString "9" = S [57] := by decide +kernel
theorem w_law0 {Q : Bool → Nat → Prop} (q : Q true 0) : M.W m_law 0 Q X := by
  have sl := sizeLine_eq
  unfold m_law b_law
  rw [M.fin_W]
  refine thn_gen fun k1 h1 => ?_
  simp only [M.to_W, M.none_W, M.bind_W, M.ret_W, M.need_W, M.the_W, M.ifb_W, M.anyOf_W, M.still_W, M.roll_W, M.pick_W, M.thn_W, M.thn_nx, M.thn_rt, M.thn_bk, M.thn_ct, M.fin_W, M.fin_rt, M.finN_W, M.finN_rt, M.finN_nx, M.FK_nx, M.FK_ct, M.FK_bk, M.FK_rt, decide_eq_true_eq, if_true, if_false, Bool.false_eq_true, Bool.not_eq_true', decide_eq_false_iff_not, Bool.not_true, Bool.not_false, ite_not]
  rw [h1]
  clear h1
  refine thn_gen fun k2 h2 => ?_
  simp only [M.to_W, M.none_W, M.bind_W, M.ret_W, M.need_W, M.the_W, M.ifb_W, M.anyOf_W, M.still_W, M.roll_W, M.pick_W, M.thn_W, M.thn_nx, M.thn_rt, M.thn_bk, M.thn_ct, M.fin_W, M.fin_rt, M.finN_W, M.finN_rt, M.finN_nx, M.FK_nx, M.FK_ct, M.FK_bk, M.FK_rt, decide_eq_true_eq, if_true, if_false, Bool.false_eq_true, Bool.not_eq_true', decide_eq_false_iff_not, Bool.not_true, Bool.not_false, ite_not]
  refine ⟨by simp, M.lcM_filter (g := fun _ => none) (fun s hs Q q => ?_) ?_⟩
  · obtain ⟨g, v, rfl, l⟩ := tens_ok s hs
    show M.W _ _ _ _
    simp only [M.to_W, M.none_W, M.bind_W, M.ret_W, M.need_W, M.the_W, M.ifb_W, M.anyOf_W, M.still_W, M.roll_W, M.pick_W, M.thn_W, M.thn_nx, M.thn_rt, M.thn_bk, M.thn_ct, M.fin_W, M.fin_rt, M.finN_W, M.finN_rt, M.finN_nx, M.FK_nx, M.FK_ct, M.FK_bk, M.FK_rt, decide_eq_true_eq, if_true, if_false, Bool.false_eq_true, Bool.not_eq_true', decide_eq_false_iff_not, Bool.not_true, Bool.not_false, ite_not]
    refine w_rd_some v (by omega) ⟨v.gd (by omega), ?_⟩
    rw [if_pos (told_S g)]
    exact q
  · have e0 : ∀ l : List Str, l.filterMap (fun _ => (none : Option Str)) = [] := fun l => List.filterMap_eq_nil_iff.mpr fun _ _ => rfl
    rw [e0]
    have ln : (PyData.list (([] : List Str).map PyData.str)).canLay0 = true := by simp [PyData.canLay0, PyData.canLayAll0]
    refine ⟨⟨ln, ln⟩, ?_⟩
    rw [if_neg (by simp [PyData.eqv, PyData.eqvAll])]
    rw [h2]
    clear h2
    simp only [M.to_W, M.none_W, M.bind_W, M.ret_W, M.need_W, M.the_W, M.ifb_W, M.anyOf_W, M.still_W, M.roll_W, M.pick_W, M.thn_W, M.thn_nx, M.thn_rt, M.thn_bk, M.thn_ct, M.fin_W, M.fin_rt, M.finN_W, M.finN_rt, M.finN_nx, M.FK_nx, M.FK_ct, M.FK_bk, M.FK_rt, decide_eq_true_eq, if_true, if_false, Bool.false_eq_true, Bool.not_eq_true', decide_eq_false_iff_not, Bool.not_true, Bool.not_false, ite_not, k57]
    rw [mul_S, mul_S]
    refine ⟨mul_ok (.inl rfl), ?_⟩
    have e1 : List.replicate (1000 : Int).toNat 57 = cL nG := nG_cL.symm
    rw [e1]
    have e9 : cL nG = nI nin := nG_cL.trans nines_nI
    have l9 : (cL nG).length = 1000 := by rw [nG_cL]; exact List.length_replicate
    refine w_read_some nG_vd (by omega) ⟨mul_ok (.inl rfl), by rw [S_len]; omega, nin, ?_, ?_⟩
    · rw [e9]
      have d := int_of (a := nI nin) (by rw [sg_nI]; exact dg_num _) (by rw [sg_nI]; exact numL_ne _) (by rw [← e9]; omega)
      rw [iv_nI] at d
      exact d
    · have eD : PyData.tuple [PyData.int nin, PyData.int 0, PyData.int 0, PyData.int 1] = fD nG := by
        unfold fD
        rw [nG_eq]
      rw [eD]
      refine ⟨⟨⟨fD_lay _, fD_dep _⟩, fD_lay _, fD_dep _⟩, ?_⟩
      rw [if_pos (fD_eqv _)]
      refine ⟨mul_ok (.inr rfl), w_read_long (n := Int.toNat 1001) (by decide) (by decide) ?_⟩
      exact q
theorem w_law {Q : Bool → Nat → Prop} {m : M Bool} (em : m_law = m) (q : Q true 0) : m.wp 0 Q X := by
  rw [← em]
  have h : M.W m_law 0 Q X := w_law0 q
  exact h
end
section
variable {P : Program} {w : World} {K : PySem.W.Frag} {mg : Str → Option Value} {base : Heap} {f CO CN CF CE : Addr} {fd : FuncData} {X : Er → Prop}
theorem tail_run {Γ : Type} {E : EV Γ} {ρ0 : Γ} {t : TS} {mb : Γ → M (Ct Unit Unit Bool)} (hb : SS md0 E eNil eNil rBl t mb) {σ : L2.St} {H : Hp} {D : Ends} (he : EI ⟨none, fun _ => none, H⟩ E (fun _ => none) H σ ρ0) (hw : ∀ m, M.fin (mb ρ0) = m → m.wp 0 (fun b _ => b = true) (fun _ => False)) (hD : ∀ H', D.rt (.bl true) H') : t D σ H := by
  refine hb ⟨none, fun _ => none, H⟩ (fun _ => none) H σ ρ0 0 D ⟨(fun _ _ z => nomatch z), ExtX.refl (fun _ _ z => nomatch z), (fun _ e => nomatch e)⟩ he ?_
  refine (mb ρ0).mono 0 (fun t c z => ?_) (fun er z => z.elim) (hw _ rfl)
  cases t with
  | nx _ => exact z.elim
  | rt b =>
    intro v F' H' w r
    have z : b = true := z
    have r : v = .bl b := r
    rw [r, z]
    exact hD H'
  | bk _ => exact z.elim
  | ct _ => exact z.elim
theorem right_call {p : Addr} {H : Hp} {c : Nat} {Q : VK} {X : XK} (hd : Dice p H c) (hc : c < 5000) (q : ∀ H' d, (∀ b o, b ≠ p → ntB o = true → H b = some o → H' b = some o) → Dice p H' d → Q (.bl true) H') : spOfD aNil rBl m__law_right [.ref p] H Q X := by
  refine ⟨fun _ => none, p, [], (), c, rfl, (fun _ _ z => nomatch z), rfl, hd, rfl, w_right (by omega) fun d _ v F' H' x _ dd rv => ?_⟩
  have rv : v = .bl true := rv
  rw [rv]
  exact q H' d (fun b o n t h => x.hpn b o (fun z => n (Option.some.inj z).symm) t h) dd
def spLaw (K : PySem.W.Frag) : Sp := fun vs H Q _ => ∃ (a : Addr) (ns : List Int), vs = [.ref a] ∧ SqL K H a (ns.map V.int) ∧ ns.length ≤ 100 ∧ ∀ H', Q (.bl true) H'
theorem ok_law (F : Fun K "law" "law" (topS 42) f fd) (bn : Binds K fd ["_law_script"] []) (G__law_dice : GD P w K mg base "_law_dice" 2 (spDice K)) (G__law_right : GG P w K mg base "_law_right" 11 1 (spOfD aNil rBl m__law_right)) (fr : Free mg) (TN : NTxt K mg CN CF) (C_Number_read : GCm P w K mg base CN "read" 9 (spOf (aCons (rCls CN) (aCons rStr aNil)) (rNum CN) m_Number_read)) (S_str : GS P w K mg base CN 3 (spStr CN)) (G__law_read : GG P w K mg base "_law_read" 10 1 (spOf (aCons (rUn (rDt K) (rUn (rNum CN) rD0)) aNil) (rDt K) m__law_read)) (yd : PySem.W.nsIn K cStatics "sys.int_max_str_digits" = some none) : FnG P w K mg base 12 f 1 (spLaw K) := by
  refine PF.Fun.okG F sc_law bn (fun cdv A outer s H vs Q hgd hr h => ⟨_, (pss_cons (ps_for PassesOwn.never rfl (pi_range1 (by rfl) fr.b_range (pa_cons (pe_callB (call_max2 rfl) (by rfl) fr.b_max (by decide +kernel) (pa_cons pe_int (pa_cons (pe_callB (call_min2 rfl) (by rfl) fr.b_min (by decide +kernel) (pa_cons pe_int (pa_cons (pe_callB call_len (by rfl) fr.b_len (by decide +kernel) (pa_cons (pv 0) pa_nil)) pa_nil))) pa_nil))) pa_nil)) (pg_name (i := 1) sc_law.nd rfl (by first | exact Or.inl rfl | exact Or.inr rfl))
    (pss_one (ps_if (pt_not (pt_val (pe_gd G__law_right hgd (hr.mono (by decide)) (pa_cons (pe_c1 G__law_dice (hr.mono (by decide)) (pa_cons (pv 0) (pa_cons (pv 1) pa_nil))) pa_nil) (by rfl)))) (pss_one (ps_ret pe_bl)) pss_nil)))
    (pss_cons (ps_set (i := 2) sc_law.nd rfl (by first | exact Or.inl rfl | exact Or.inr rfl) (pe_lst (pa_cons pe_str (pa_cons pe_str (pa_cons pe_str (pa_cons pe_str (pa_cons pe_str (pa_cons pe_str (pa_cons pe_str (pa_cons pe_str (pa_cons pe_str (pa_cons pe_str pa_nil))))))))))))
  (pss_cons (ps_if (pt_cmpR (op_neD (have h := hu64 hr; h) : OpR _ _ (rNeD K)) (pe_lc (own := [("_law_text_here", 3)]) (by rfl) sc_law.nd  (pi_list (pv 2)) (blkOk_by (own := [("_law_text_here", 3)]) (N := ["_law_script", "_law_spot", "_law_texts", "_law_text_here"]) (sc := defScope (topS 42)) (by decide +kernel)) (fun _ _ _ _ _ => (pg_name (i := 3) sc_law.nd rfl (by first | exact Or.inl rfl | exact Or.inr rfl))) (fun _ _ _ _ _ => (pts_one (pt_cmpR op_ne (pe_callTy (call_strN S_str (hr.mono (by decide))) (by rfl) fr.b_str (by decide +kernel) (pa_cons (pe_cm C_Number_read (hr.mono (by decide)) (pe_glob (v := .ref CN) rfl TN.gN rfl) (pa_cons (pv 3) pa_nil)) pa_nil)) (pv 3) (nomark _)))) (fun _ _ _ _ _ => (pv 3))) (pe_lst pa_nil) (nomark _)) (pss_one (ps_ret pe_bl)) pss_nil)
  (pss_one (ps_ret (pe_and (pe_cmpR (op_eqD (have h := hu64 hr; h) : OpR _ _ (rEqD K)) (pe_gd G__law_read hgd (hr.mono (by decide)) (pa_cons (pe_op op_mul_str pe_str pe_int) pa_nil) (by rfl)) (pe_tup (pa_cons (pe_callTy (call_int_strB yd) (by rfl) fr.b_int (by decide +kernel) (pa_cons (pe_op op_mul_str pe_str pe_int) pa_nil)) (pa_cons pe_int (pa_cons pe_int (pa_cons pe_int pa_nil))))) (nomark _)) (pe_one (pe_cmpR op_isN (pe_gd G__law_read hgd (hr.mono (by decide)) (pa_cons (pe_op op_mul_str pe_str pe_int) pa_nil) (by rfl)) pe_non (nomark _))))))))), ?_⟩)
  obtain ⟨a, ns, rfl, hS, hl, q⟩ := h
  have ln : (ns.map V.int).length = ns.length := List.length_map _
  refine ⟨_, rfl, _, (ns.map V.int).length, rfl, .inl ⟨_, hS, rfl⟩, _, _, rfl, _, _, rfl, _, rfl, ?_, ?_, ?_⟩
  · split <;> omega
  · have : (2 : Int) ^ 62 = 4611686018427387904 := by decide
    split
    · split <;> omega
    · omega
  generalize hj : (if (if ((ns.map V.int).length : Int) < 5 then ((ns.map V.int).length : Int) else 5) > 1 then (if ((ns.map V.int).length : Int) < 5 then ((ns.map V.int).length : Int) else 5) else 1) = j
  have j3 : j ≤ 5 := by
    rw [← hj]
    split
    · split <;> omega
    · omega
  have sq : ∀ {H' H2 : Hp} {p : Addr}, SqL K H' a (ns.map V.int) → H' p = none → (∀ b o, b ≠ p → ntB o = true → H' b = some o → H2 b = some o) → SqL K H2 a (ns.map V.int) := fun {H' H2 p} h n e => by
    rcases h with h | h
    · rcases h with h | ⟨o, h⟩
      · exact .inl (.inl (e _ _ (fun z => by rw [z, n] at h; cases h) rfl h))
      · exact .inl (.inr ⟨o, e _ _ (fun z => by rw [z, n] at h; cases h) rfl h⟩)
    · exact .inr h
  refine for_range (lo := 0) (fun i σ H' => ∃ o2, σ = [some (.ref a), o2, none, none] ∧ SqL K H' a (ns.map V.int)) ⟨none, rfl, hS⟩ ?_ ?_
  · rintro i _ H' hi ⟨o2, rfl, hS'⟩
    refine ⟨_, rfl, _, rfl, a, ns, 0 + (i : Int), rfl, hS', hl, by omega, by omega, fun p H2 s2 np dd => ?_⟩
    refine ⟨rfl, right_call (X := E0) dd (by decide) fun H3 d3 e3 dd3 => ⟨_, rfl, ?_⟩⟩
    refine (if_neg (by simp)).mpr ?_
    refine ⟨_, rfl, sq hS' np fun b o n t z => e3 b o n t (s2 b o z)⟩
  rintro _ H1 ⟨o2, rfl, _⟩
  dsimp only
  refine tail_run (E := (eCons sUn (eCons sUn (eCons sUn (eCons sUn eNil))))) (ρ0 := ((), ((), ((), ((), ()))))) (s_seq (s_asg (SN.se (n_lst (hom_cons (hom_cons (hom_cons (hom_cons (hom_cons (hom_cons (hom_cons (hom_cons (hom_cons (hom_cons hom_nil)))))))))) (a_cons e_str (a_cons e_str (a_cons e_str (a_cons e_str (a_cons e_str (a_cons e_str (a_cons e_str (a_cons e_str (a_cons e_str (a_cons e_str a_nil)))))))))) (le_n 10))) (g_name pu2))
  (s_seq (s_if (t_of (e_op (o_neD (da := (fun (xs : (List Str)) => PyData.list (xs.map PyData.str))) (db := (fun (xs : (List Str)) => PyData.list (xs.map PyData.str))) (dp_ls dp_str) (dp_ls dp_str)) (SN.se (n_lc (i_ls (e_var gt2)) (gw_name pu3) (t_of (e_op (o_ne sc_str) (e_numStr (e_cm (a_cons (e_var gt3) a_nil))) (e_var gt3))) (e_var gt3))) (SN.se (n_lst (Ra := rStr) hom_nil a_nil (le_n 0))))) (s_ret e_bl) s_nil)
  (s_ret (e_and (e_op o_eqDt (e_callG rfl (a_cons (e_coeX (Rb := (rUn (rDt K) (rUn (rNum CN) rD0))) coe_l (e_dat dp_str (e_op o_mulS e_str e_int))) a_nil)) (e_dat (dp_tx (dpa_cons dp_int (dpa_cons dp_int (dpa_cons dp_int (dpa_cons dp_int dpa_nil))))) (e_tup (a_cons (e_ca c_intSB (a_cons (e_op o_mulS e_str e_int) a_nil)) (a_cons e_int (a_cons e_int (a_cons e_int a_nil)))) (le_n 4)))) (e_op o_isNDt (e_callG rfl (a_cons (e_coeX (Rb := (rUn (rDt K) (rUn (rNum CN) rD0))) coe_l (e_dat dp_str (e_op o_mulS e_str e_int))) a_nil)) e_non))))) ?_ ?_ q
  · exact ⟨⟨_, _, rfl, trivial, _, _, rfl, trivial, _, _, rfl, trivial, _, _, rfl, trivial, rfl⟩, List.nodup_nil⟩
  · exact fun m e => w_law e rfl
end
end PF2
set_option maxHeartbeats 4000000
namespace PF
open PySem PySem.Spec PyProof.Rows L2 SlX
theorem num_kwd {K : PySem.W.Frag} {D : Addr} {tk1 tk2 : Tok} (h1 : PySem.W.nsIn K D "root" = some (some (.int 0 tk1))) (h2 : PySem.W.nsIn K D "bottom" = some (some (.int 1 tk2))) :
    ∀ q ∈ ([("root", .int 0), ("bottom", .int 1)] : List (Str × V)), ∃ u, PySem.W.nsIn K D q.1 = some (some u) ∧ RelV q.2 u := fun q hq => by
  rcases List.mem_cons.mp hq with e | hq
  · subst e; exact ⟨_, h1, _, rfl⟩
  · rcases List.mem_cons.mp hq with e | hq
    · subst e; exact ⟨_, h2, _, rfl⟩
    · cases hq
theorem kit_self {K : PySem.W.Frag} {C : Addr} : PySem.W.kitOne K (.ref C) (.ref C) = some true := by
  unfold PySem.W.kitOne
  rw [if_pos (by simp)]
theorem kit_own {K : PySem.W.Frag} {C : Addr} {t : Value} {b : Bool} (ne : (t == Value.ref C) = false) (h1 : PySem.W.isClsIn K C = true) (h2 : PySem.W.typeIn K (.ref C) = some (.type "type")) (h3 : PySem.W.subIn K t (.ref C) = some b) : PySem.W.kitOne K t (.ref C) = some b := by
  unfold PySem.W.kitOne
  rw [ne, if_neg Bool.false_ne_true]
  show (if ((PySem.W.clsIn K C).isSome && PySem.W.typeIn K (.ref C) == some (.type "type")) = true then PySem.W.subIn K t (.ref C) else none) = some b
  rw [if_pos (by rw [show (PySem.W.clsIn K C).isSome = true from h1, h2]; rfl)]
  exact h3
theorem kit_bi {K : PySem.W.Frag} {C : Addr} {T : String} {b : Bool} (h1 : PySem.W.kitMeta T = true) (h3 : PySem.W.subIn K (.ref C) (.type T) = some b) : PySem.W.kitOne K (.ref C) (.type T) = some b := by
  unfold PySem.W.kitOne
  rw [if_neg (show ¬ (Value.ref C == Value.type T) = true from fun z => nomatch z)]
  show (if PySem.W.kitMeta T = true then PySem.W.subIn K (.ref C) (.type T) else none) = some b
  rw [if_pos h1]
  exact h3
section
variable {K : PySem.W.Frag} {f : Addr} {fd : FuncData}
theorem num_binds (F : FunD K "__init__" "Number.__init__" (defArgs (inClass (topS 18) 1)) (defBody (inClass (topS 18) 1)) (defScope (inClass (topS 18) 1)) [.int 0] [("root", .int 0), ("bottom", .int 1)] f fd) : ∃ ds, Vals [.int 0, .int 0, .int 1] ds ∧ Binds K fd ["self", "top", "part", "root", "bottom"] ds :=
  F.binds 2 0 (by simp) rfl (fun T D doc pm an cdv ct us its ks h1 h2 h3 => match us, its, ks, h1, h2, h3 with
    | [_, _], [_], [_, _], _, _, _ => ⟨_, rfl, ⟨_, _, _, _, _, _, rfl, rfl, ⟨_, _, _, _, _, _, rfl, rfl, rfl⟩⟩⟩) (by simp)
theorem num_kbinds (F : FunD K "__init__" "Number.__init__" (defArgs (inClass (topS 18) 1)) (defBody (inClass (topS 18) 1)) (defScope (inClass (topS 18) 1)) [.int 0] [("root", .int 0), ("bottom", .int 1)] f fd) : ∃ its : List Value, KBn K fd ["self", "top", "part", "root", "bottom"] 3 ["root", "bottom"] (fun us ws => us ++ ws) (fun vs zs => vs ++ zs) := by
  obtain ⟨its, h⟩ := F.kbindsD (ps := ["self", "top", "part", "root", "bottom"]) 3 ["root", "bottom"] (fun us _ ws => us ++ ws) (by simp) (fun r1 _ r3 => r1.append r3) (fun T kV doc pm an cdv ct us its ws h1 h2 h3 => match us, its, ws, h1, h2, h3 with
    | [_, _, _], [_], [_, _], _, _, _ => ⟨_, rfl, rfl⟩)
  exact ⟨its, h⟩
end
end PF
namespace PF2
open PF PySem PySem.Spec PyProof.Rows L2 SlX
theorem kb_Number2root {K : PySem.W.Frag} {f : Addr} {fd : FuncData} (F : FunD K "__init__" "Number.__init__" (defArgs (inClass (topS 18) 1)) (defBody (inClass (topS 18) 1)) (defScope (inClass (topS 18) 1)) [.int 0] [("root", .int 0), ("bottom", .int 1)] f fd) : ∃ its mv : List Value, KBn K fd ["self", "top", "part", "root", "bottom"] 3 ["root"] (fun us ws => us ++ ws ++ mv) (fun vs zs => vs ++ zs ++ [V.int 1]) := by
  obtain ⟨its, mv, h⟩ := F.kbinds (ps := ["self", "top", "part", "root", "bottom"]) 3 ["root"] [("bottom", .int 1)] (fun us its mv ws => us ++ ws ++ mv) (by simp) (by simp) (by simp) (fun r1 r2 r3 r4 => (r1.append r4).append r3) (fun T D doc pm an cdv ct us its mv ws h1 h2 h3 h4 => match us, its, mv, ws, h1, h2, h3, h4 with
    | [_, _, _], [_], [_], [_], _, _, _, _ => ⟨_, rfl, ⟨_, _, _, _, _, _, rfl, rfl, rfl⟩⟩)
  exact ⟨its, mv, h⟩
theorem all_mk {prog : Program} {w : World} {K : PySem.W.Frag} {h : Heap} {mg : Str → Option Value} {fa : Addr} (X : K.In h) (G : h.Ns mainGlobals mg) (hfa : mg "law" = some (.ref fa))
    {CN CF : Addr}
    {pNtop : Addr}
    {pNpart : Addr}
    {pNroot : Addr}
    {pNbottom : Addr}
    {pFtop : Addr}
    {pFpart : Addr}
    {pFroot : Addr}
    {pFbottom : Addr}
    {ft0 : Addr} {odt0 ant0 : Option Addr} {slt0 : Array (Option Value)} {oct0 kVt0 dct0 pmt0 cdt0 ctt0 : Value}
    {ft1 : Addr} {odt1 ant1 : Option Addr} {slt1 : Array (Option Value)} {oct1 kVt1 dct1 pmt1 cdt1 ctt1 : Value}
    {ft2 : Addr} {odt2 ant2 : Option Addr} {slt2 : Array (Option Value)} {oct2 kVt2 dct2 pmt2 cdt2 ctt2 : Value}
    {ft3 : Addr} {odt3 ant3 : Option Addr} {slt3 : Array (Option Value)} {oct3 kVt3 dct3 pmt3 cdt3 ctt3 : Value}
    {ft4 : Addr} {odt4 ant4 : Option Addr} {slt4 : Array (Option Value)} {oct4 kVt4 dct4 pmt4 cdt4 ctt4 : Value}
    {ffi : Addr} {odfi anfi : Option Addr} {slfi : Array (Option Value)} {ocfi kVfi dcfi pmfi cdfi ctfi : Value}
    {ft5 : Addr} {odt5 ant5 : Option Addr} {slt5 : Array (Option Value)} {oct5 kVt5 dct5 pmt5 cdt5 ctt5 : Value}
    {fni aT aD : Addr} {odni anni odT : Option Addr} {slni slT : Array (Option Value)} {ocni ocT dcni pmni cdni ctni : Value} {mT : Nat} {tk0 tk1 tk2 : Tok}
    {ft6 : Addr} {odt6 ant6 : Option Addr} {slt6 : Array (Option Value)} {oct6 kVt6 dct6 pmt6 cdt6 ctt6 : Value}
    {ft7 : Addr} {odt7 ant7 : Option Addr} {slt7 : Array (Option Value)} {oct7 kVt7 dct7 pmt7 cdt7 ctt7 : Value}
    {ft8 : Addr} {odt8 ant8 : Option Addr} {slt8 : Array (Option Value)} {oct8 kVt8 dct8 pmt8 cdt8 ctt8 : Value}
    {fadd : Addr} {odadd anadd : Option Addr} {sladd : Array (Option Value)} {ocadd kVadd dcadd pmadd cdadd ctadd : Value}
    {foadd roadd : Option Value}
    {fsub : Addr} {odsub ansub : Option Addr} {slsub : Array (Option Value)} {ocsub kVsub dcsub pmsub cdsub ctsub : Value}
    {fosub rosub : Option Value}
    {fmul : Addr} {odmul anmul : Option Addr} {slmul : Array (Option Value)} {ocmul kVmul dcmul pmmul cdmul ctmul : Value}
    {fomul romul : Option Value}
    {dp_top : Addr} {rsp_top : List Value}
    {fp_top : Addr} {odp_top anp_top : Option Addr} {slp_top : Array (Option Value)} {ocp_top kVp_top dcp_top pmp_top cdp_top ctp_top : Value}
    {dp_part : Addr} {rsp_part : List Value}
    {fp_part : Addr} {odp_part anp_part : Option Addr} {slp_part : Array (Option Value)} {ocp_part kVp_part dcp_part pmp_part cdp_part ctp_part : Value}
    {dp_root : Addr} {rsp_root : List Value}
    {fp_root : Addr} {odp_root anp_root : Option Addr} {slp_root : Array (Option Value)} {ocp_root kVp_root dcp_root pmp_root cdp_root ctp_root : Value}
    {dp_bottom : Addr} {rsp_bottom : List Value}
    {fp_bottom : Addr} {odp_bottom anp_bottom : Option Addr} {slp_bottom : Array (Option Value)} {ocp_bottom kVp_bottom dcp_bottom pmp_bottom cdp_bottom ctp_bottom : Value}
    {feq : Addr} {odeq aneq : Option Addr} {sleq : Array (Option Value)} {oceq kVeq dceq pmeq cdeq cteq : Value}
    {fstr : Addr} {odstr anstr : Option Addr} {slstr : Array (Option Value)} {ocstr kVstr dcstr pmstr cdstr ctstr : Value}
    {ft9 : Addr} {odt9 ant9 : Option Addr} {slt9 : Array (Option Value)} {oct9 kVt9 dct9 pmt9 cdt9 ctt9 : Value}
    {ft10 : Addr} {odt10 ant10 : Option Addr} {slt10 : Array (Option Value)} {oct10 kVt10 dct10 pmt10 cdt10 ctt10 : Value}
    {ft11 : Addr} {odt11 ant11 : Option Addr} {slt11 : Array (Option Value)} {oct11 kVt11 dct11 pmt11 cdt11 ctt11 : Value}
    {ft12 : Addr} {odt12 ant12 : Option Addr} {slt12 : Array (Option Value)} {oct12 kVt12 dct12 pmt12 cdt12 ctt12 : Value}
    {ft13 : Addr} {odt13 ant13 : Option Addr} {slt13 : Array (Option Value)} {oct13 kVt13 dct13 pmt13 cdt13 ctt13 : Value}
    {ft14 : Addr} {odt14 ant14 : Option Addr} {slt14 : Array (Option Value)} {oct14 kVt14 dct14 pmt14 cdt14 ctt14 : Value}
    {dcCN_read : Addr} {rscCN_read : List Value}
    {fcCN_read : Addr} {odcCN_read ancCN_read : Option Addr} {slcCN_read : Array (Option Value)} {occCN_read kVcCN_read dccCN_read pmcCN_read cdcCN_read ctcCN_read : Value}
    {A_PieceError : Addr}
    {A_ParseError fI_ParseError : Addr}
    {ft15 : Addr} {odt15 ant15 : Option Addr} {slt15 : Array (Option Value)} {oct15 kVt15 dct15 pmt15 cdt15 ctt15 : Value}
    {ft16 : Addr} {odt16 ant16 : Option Addr} {slt16 : Array (Option Value)} {oct16 kVt16 dct16 pmt16 cdt16 ctt16 : Value}
    {ft17 : Addr} {odt17 ant17 : Option Addr} {slt17 : Array (Option Value)} {oct17 kVt17 dct17 pmt17 cdt17 ctt17 : Value}
    {ft18 : Addr} {odt18 ant18 : Option Addr} {slt18 : Array (Option Value)} {oct18 kVt18 dct18 pmt18 cdt18 ctt18 : Value}
    {ft19 : Addr} {odt19 ant19 : Option Addr} {slt19 : Array (Option Value)} {oct19 kVt19 dct19 pmt19 cdt19 ctt19 : Value}
    {ft20 : Addr} {odt20 ant20 : Option Addr} {slt20 : Array (Option Value)} {oct20 kVt20 dct20 pmt20 cdt20 ctt20 : Value}
    {ft21 : Addr} {odt21 ant21 : Option Addr} {slt21 : Array (Option Value)} {oct21 kVt21 dct21 pmt21 cdt21 ctt21 : Value}
    {ft22 : Addr} {odt22 ant22 : Option Addr} {slt22 : Array (Option Value)} {oct22 kVt22 dct22 pmt22 cdt22 ctt22 : Value}
    {ft23 : Addr} {odt23 ant23 : Option Addr} {slt23 : Array (Option Value)} {oct23 kVt23 dct23 pmt23 cdt23 ctt23 : Value}
    {ft24 : Addr} {odt24 ant24 : Option Addr} {slt24 : Array (Option Value)} {oct24 kVt24 dct24 pmt24 cdt24 ctt24 : Value}
    {ft25 : Addr} {odt25 ant25 : Option Addr} {slt25 : Array (Option Value)} {oct25 kVt25 dct25 pmt25 cdt25 ctt25 : Value}
    {ft26 : Addr} {odt26 ant26 : Option Addr} {slt26 : Array (Option Value)} {oct26 kVt26 dct26 pmt26 cdt26 ctt26 : Value}
    {ft27 : Addr} {odt27 ant27 : Option Addr} {slt27 : Array (Option Value)} {oct27 kVt27 dct27 pmt27 cdt27 ctt27 : Value}
    {ft28 : Addr} {odt28 ant28 : Option Addr} {slt28 : Array (Option Value)} {oct28 kVt28 dct28 pmt28 cdt28 ctt28 : Value}
    {tkFIGURES : Tok}
    {tkLEAST_ROOT : Tok}
    {tkMAX_ROOT : Tok}
    {tkMOST_FIGURES : Tok}
    (z_abs : PySem.W.nsIn K mainGlobals "abs" = some none)
    (z_all : PySem.W.nsIn K mainGlobals "all" = some none)
    (z_bool : PySem.W.nsIn K mainGlobals "bool" = some none)
    (z_int : PySem.W.nsIn K mainGlobals "int" = some none)
    (z_isinstance : PySem.W.nsIn K mainGlobals "isinstance" = some none)
    (z_len : PySem.W.nsIn K mainGlobals "len" = some none)
    (z_max : PySem.W.nsIn K mainGlobals "max" = some none)
    (z_min : PySem.W.nsIn K mainGlobals "min" = some none)
    (z_range : PySem.W.nsIn K mainGlobals "range" = some none)
    (z_repr : PySem.W.nsIn K mainGlobals "repr" = some none)
    (z_str : PySem.W.nsIn K mainGlobals "str" = some none)
    (cn : PySem.W.specialIn K (.builtin "object.__class__") "__get__" = some (some (.builtin "getset_descriptor.__get__")))
    (ct : PySem.W.takesIn K (.builtin "object.__class__") = some true)
    (aN : PySem.W.nsIn K mainGlobals "Number" = some (some (.ref CN)))
    (aF : PySem.W.nsIn K mainGlobals "Form" = some (some (.ref CF)))
    (pgN : PySem.W.plainGet K CN Str.empty = true)
    (icN : PySem.W.isClsIn K CN = true)
    (poN : PySem.W.plainOver K CN = true)
    (saN : PySem.W.findIn K (.ref CN) "__setattr__" = some (some (.builtin "object.__setattr__")))
    (caN : PySem.W.findIn K (.ref CN) "__class__" = some (some (.builtin "object.__class__")))
    (cmN : PySem.W.mroIn K CN (.type "object") = some true)
    (mkN : PySem.W.makesIn K CN = true)
    (kcN : PySem.W.keepIn K (.ref CN) = true)
    (pgF : PySem.W.plainGet K CF Str.empty = true)
    (icF : PySem.W.isClsIn K CF = true)
    (poF : PySem.W.plainOver K CF = true)
    (saF : PySem.W.findIn K (.ref CF) "__setattr__" = some (some (.builtin "object.__setattr__")))
    (caF : PySem.W.findIn K (.ref CF) "__class__" = some (some (.builtin "object.__class__")))
    (cmF : PySem.W.mroIn K CF (.type "object") = some true)
    (mkF : PySem.W.makesIn K CF = true)
    (kcF : PySem.W.keepIn K (.ref CF) = true)
    (saNtop : PySem.W.findIn K (.ref CN) "own_top" = some (some (.ref pNtop)))
    (sgNtop : PySem.W.specialIn K (.ref pNtop) "__get__" = some (some (.builtin "member_descriptor.__get__")))
    (stNtop : PySem.W.takesIn K (.ref pNtop) = some true)
    (syNtop : PySem.W.typeIn K (.ref pNtop) = some (.type "member_descriptor"))
    (sxNtop : PySem.W.slotIn K pNtop CN = some 3)
    (saNpart : PySem.W.findIn K (.ref CN) "own_part" = some (some (.ref pNpart)))
    (sgNpart : PySem.W.specialIn K (.ref pNpart) "__get__" = some (some (.builtin "member_descriptor.__get__")))
    (stNpart : PySem.W.takesIn K (.ref pNpart) = some true)
    (syNpart : PySem.W.typeIn K (.ref pNpart) = some (.type "member_descriptor"))
    (sxNpart : PySem.W.slotIn K pNpart CN = some 1)
    (saNroot : PySem.W.findIn K (.ref CN) "own_root" = some (some (.ref pNroot)))
    (sgNroot : PySem.W.specialIn K (.ref pNroot) "__get__" = some (some (.builtin "member_descriptor.__get__")))
    (stNroot : PySem.W.takesIn K (.ref pNroot) = some true)
    (syNroot : PySem.W.typeIn K (.ref pNroot) = some (.type "member_descriptor"))
    (sxNroot : PySem.W.slotIn K pNroot CN = some 2)
    (saNbottom : PySem.W.findIn K (.ref CN) "own_bottom" = some (some (.ref pNbottom)))
    (sgNbottom : PySem.W.specialIn K (.ref pNbottom) "__get__" = some (some (.builtin "member_descriptor.__get__")))
    (stNbottom : PySem.W.takesIn K (.ref pNbottom) = some true)
    (syNbottom : PySem.W.typeIn K (.ref pNbottom) = some (.type "member_descriptor"))
    (sxNbottom : PySem.W.slotIn K pNbottom CN = some 0)
    (saFtop : PySem.W.findIn K (.ref CF) "own_top" = some (some (.ref pFtop)))
    (sgFtop : PySem.W.specialIn K (.ref pFtop) "__get__" = some (some (.builtin "member_descriptor.__get__")))
    (stFtop : PySem.W.takesIn K (.ref pFtop) = some true)
    (syFtop : PySem.W.typeIn K (.ref pFtop) = some (.type "member_descriptor"))
    (sxFtop : PySem.W.slotIn K pFtop CF = some 3)
    (saFpart : PySem.W.findIn K (.ref CF) "own_part" = some (some (.ref pFpart)))
    (sgFpart : PySem.W.specialIn K (.ref pFpart) "__get__" = some (some (.builtin "member_descriptor.__get__")))
    (stFpart : PySem.W.takesIn K (.ref pFpart) = some true)
    (syFpart : PySem.W.typeIn K (.ref pFpart) = some (.type "member_descriptor"))
    (sxFpart : PySem.W.slotIn K pFpart CF = some 1)
    (saFroot : PySem.W.findIn K (.ref CF) "own_root" = some (some (.ref pFroot)))
    (sgFroot : PySem.W.specialIn K (.ref pFroot) "__get__" = some (some (.builtin "member_descriptor.__get__")))
    (stFroot : PySem.W.takesIn K (.ref pFroot) = some true)
    (syFroot : PySem.W.typeIn K (.ref pFroot) = some (.type "member_descriptor"))
    (sxFroot : PySem.W.slotIn K pFroot CF = some 2)
    (saFbottom : PySem.W.findIn K (.ref CF) "own_bottom" = some (some (.ref pFbottom)))
    (sgFbottom : PySem.W.specialIn K (.ref pFbottom) "__get__" = some (some (.builtin "member_descriptor.__get__")))
    (stFbottom : PySem.W.takesIn K (.ref pFbottom) = some true)
    (syFbottom : PySem.W.typeIn K (.ref pFbottom) = some (.type "member_descriptor"))
    (sxFbottom : PySem.W.slotIn K pFbottom CF = some 0)
    (tyN : PySem.W.typeIn K (.ref CN) = some (.type "type"))
    (tyF : PySem.W.typeIn K (.ref CF) = some (.type "type"))
    (suF : PySem.W.subIn K (.type "int") (.ref CF) = some false)
    (suI : PySem.W.subIn K (.ref CN) (.type "int") = some false)
    (suN : PySem.W.subIn K (.type "int") (.ref CN) = some false)
    (at0 : PySem.W.nsIn K mainGlobals "is_whole" = some (some (.ref ft0)))
    (lt0 : K.lookup ft0 = some ⟨oct0, odt0, .func (PySem.W.fnOf "is_whole" "is_whole" (defArgs (topS 6)) (defBody (topS 6)) (defScope (topS 6)) .none kVt0 dct0 pmt0 ant0 cdt0 ctt0), slt0⟩)
    (ct0 : PySem.W.codeIn K cdt0 "is_whole" = true)
    (kt0 : PySem.W.keepIn K (.ref ft0) = true)
    (at1 : PySem.W.nsIn K mainGlobals "greatest_divisor" = some (some (.ref ft1)))
    (lt1 : K.lookup ft1 = some ⟨oct1, odt1, .func (PySem.W.fnOf "greatest_divisor" "greatest_divisor" (defArgs (topS 7)) (defBody (topS 7)) (defScope (topS 7)) .none kVt1 dct1 pmt1 ant1 cdt1 ctt1), slt1⟩)
    (ct1 : PySem.W.codeIn K cdt1 "greatest_divisor" = true)
    (kt1 : PySem.W.keepIn K (.ref ft1) = true)
    (at2 : PySem.W.nsIn K mainGlobals "whole_root" = some (some (.ref ft2)))
    (lt2 : K.lookup ft2 = some ⟨oct2, odt2, .func (PySem.W.fnOf "whole_root" "whole_root" (defArgs (topS 8)) (defBody (topS 8)) (defScope (topS 8)) .none kVt2 dct2 pmt2 ant2 cdt2 ctt2), slt2⟩)
    (ct2 : PySem.W.codeIn K cdt2 "whole_root" = true)
    (kt2 : PySem.W.keepIn K (.ref ft2) = true)
    (at3 : PySem.W.nsIn K mainGlobals "is_root" = some (some (.ref ft3)))
    (lt3 : K.lookup ft3 = some ⟨oct3, odt3, .func (PySem.W.fnOf "is_root" "is_root" (defArgs (topS 14)) (defBody (topS 14)) (defScope (topS 14)) .none kVt3 dct3 pmt3 ant3 cdt3 ctt3), slt3⟩)
    (ct3 : PySem.W.codeIn K cdt3 "is_root" = true)
    (kt3 : PySem.W.keepIn K (.ref ft3) = true)
    (at4 : PySem.W.nsIn K mainGlobals "told_number" = some (some (.ref ft4)))
    (lt4 : K.lookup ft4 = some ⟨oct4, odt4, .func (PySem.W.fnOf "told_number" "told_number" (defArgs (topS 15)) (defBody (topS 15)) (defScope (topS 15)) .none kVt4 dct4 pmt4 ant4 cdt4 ctt4), slt4⟩)
    (ct4 : PySem.W.codeIn K cdt4 "told_number" = true)
    (kt4 : PySem.W.keepIn K (.ref ft4) = true)
    (yd : PySem.W.nsIn K cStatics "sys.int_max_str_digits" = some none)
    (afi : PySem.W.findIn K (.ref CF) "__init__" = some (some (.ref ffi)))
    (lfi : K.lookup ffi = some ⟨ocfi, odfi, .func (PySem.W.fnOf "__init__" "Form.__init__" (defArgs (inClass (topS 16) 1)) (defBody (inClass (topS 16) 1)) (defScope (inClass (topS 16) 1)) .none kVfi dcfi pmfi anfi cdfi ctfi), slfi⟩)
    (cfi : PySem.W.codeIn K cdfi "Form.__init__" = true)
    (kfi : PySem.W.keepIn K (.ref ffi) = true)
    (ifi : PySem.W.isFn K (.ref ffi) = true)
    (at5 : PySem.W.nsIn K mainGlobals "form_in" = some (some (.ref ft5)))
    (lt5 : K.lookup ft5 = some ⟨oct5, odt5, .func (PySem.W.fnOf "form_in" "form_in" (defArgs (topS 17)) (defBody (topS 17)) (defScope (topS 17)) .none kVt5 dct5 pmt5 ant5 cdt5 ctt5), slt5⟩)
    (ct5 : PySem.W.codeIn K cdt5 "form_in" = true)
    (kt5 : PySem.W.keepIn K (.ref ft5) = true)
    (ani : PySem.W.findIn K (.ref CN) "__init__" = some (some (.ref fni)))
    (lni : K.lookup fni = some ⟨ocni, odni, .func (PySem.W.fnOf "__init__" "Number.__init__" (defArgs (inClass (topS 18) 1)) (defBody (inClass (topS 18) 1)) (defScope (inClass (topS 18) 1)) (.ref aT) (.ref aD) dcni pmni anni cdni ctni), slni⟩)
    (cni : PySem.W.codeIn K cdni "Number.__init__" = true)
    (kni : PySem.W.keepIn K (.ref fni) = true)
    (ini : PySem.W.isFn K (.ref fni) = true)
    (lT : K.lookup aT = some ⟨ocT, odT, .seq #[.int 0 tk0] mT, slT⟩)
    (nDr : PySem.W.nsIn K aD "root" = some (some (.int 0 tk1)))
    (nDb : PySem.W.nsIn K aD "bottom" = some (some (.int 1 tk2)))
    (at6 : PySem.W.nsIn K mainGlobals "is_like_number" = some (some (.ref ft6)))
    (lt6 : K.lookup ft6 = some ⟨oct6, odt6, .func (PySem.W.fnOf "is_like_number" "is_like_number" (defArgs (topS 19)) (defBody (topS 19)) (defScope (topS 19)) .none kVt6 dct6 pmt6 ant6 cdt6 ctt6), slt6⟩)
    (ct6 : PySem.W.codeIn K cdt6 "is_like_number" = true)
    (kt6 : PySem.W.keepIn K (.ref ft6) = true)
    (at7 : PySem.W.nsIn K mainGlobals "number_of" = some (some (.ref ft7)))
    (lt7 : K.lookup ft7 = some ⟨oct7, odt7, .func (PySem.W.fnOf "number_of" "number_of" (defArgs (topS 20)) (defBody (topS 20)) (defScope (topS 20)) .none kVt7 dct7 pmt7 ant7 cdt7 ctt7), slt7⟩)
    (ct7 : PySem.W.codeIn K cdt7 "number_of" = true)
    (kt7 : PySem.W.keepIn K (.ref ft7) = true)
    (at8 : PySem.W.nsIn K mainGlobals "common_root" = some (some (.ref ft8)))
    (lt8 : K.lookup ft8 = some ⟨oct8, odt8, .func (PySem.W.fnOf "common_root" "common_root" (defArgs (topS 21)) (defBody (topS 21)) (defScope (topS 21)) .none kVt8 dct8 pmt8 ant8 cdt8 ctt8), slt8⟩)
    (ct8 : PySem.W.codeIn K cdt8 "common_root" = true)
    (kt8 : PySem.W.keepIn K (.ref ft8) = true)
    (aadd : PySem.W.findIn K (.ref CN) "__add__" = some (some (.ref fadd)))
    (ladd : K.lookup fadd = some ⟨ocadd, odadd, .func (PySem.W.fnOf "__add__" "Number.__add__" (defArgs (inClass (topS 18) 13)) (defBody (inClass (topS 18) 13)) (defScope (inClass (topS 18) 13)) .none kVadd dcadd pmadd anadd cdadd ctadd), sladd⟩)
    (cadd : PySem.W.codeIn K cdadd "Number.__add__" = true)
    (kadd : PySem.W.keepIn K (.ref fadd) = true)
    (iadd : PySem.W.isFn K (.ref fadd) = true)
    (rcadd : PySem.W.findIn K (.ref CN) "__radd__" = some none)
    (foadd : PySem.W.findIn K (.type "int") "__add__" = some foadd)
    (roadd : PySem.W.findIn K (.type "int") "__radd__" = some roadd)
    (sfN : PySem.W.selfFirst K CN = true)
    (asub : PySem.W.findIn K (.ref CN) "__sub__" = some (some (.ref fsub)))
    (lsub : K.lookup fsub = some ⟨ocsub, odsub, .func (PySem.W.fnOf "__sub__" "Number.__sub__" (defArgs (inClass (topS 18) 14)) (defBody (inClass (topS 18) 14)) (defScope (inClass (topS 18) 14)) .none kVsub dcsub pmsub ansub cdsub ctsub), slsub⟩)
    (csub : PySem.W.codeIn K cdsub "Number.__sub__" = true)
    (ksub : PySem.W.keepIn K (.ref fsub) = true)
    (isub : PySem.W.isFn K (.ref fsub) = true)
    (rcsub : PySem.W.findIn K (.ref CN) "__rsub__" = some none)
    (fosub : PySem.W.findIn K (.type "int") "__sub__" = some fosub)
    (rosub : PySem.W.findIn K (.type "int") "__rsub__" = some rosub)
    (amul : PySem.W.findIn K (.ref CN) "__mul__" = some (some (.ref fmul)))
    (lmul : K.lookup fmul = some ⟨ocmul, odmul, .func (PySem.W.fnOf "__mul__" "Number.__mul__" (defArgs (inClass (topS 18) 15)) (defBody (inClass (topS 18) 15)) (defScope (inClass (topS 18) 15)) .none kVmul dcmul pmmul anmul cdmul ctmul), slmul⟩)
    (cmul : PySem.W.codeIn K cdmul "Number.__mul__" = true)
    (kmul : PySem.W.keepIn K (.ref fmul) = true)
    (imul : PySem.W.isFn K (.ref fmul) = true)
    (rcmul : PySem.W.findIn K (.ref CN) "__rmul__" = some none)
    (fomul : PySem.W.findIn K (.type "int") "__mul__" = some fomul)
    (romul : PySem.W.findIn K (.type "int") "__rmul__" = some romul)
    (ap_top : PySem.W.findIn K (.ref CN) "top" = some (some (.ref dp_top)))
    (sp_top : PySem.W.specialIn K (.ref dp_top) "__get__" = some (some (.builtin "property.__get__")))
    (tp_top : PySem.W.takesIn K (.ref dp_top) = some true)
    (rp_top : PySem.W.recIn K dp_top "property" = some (.ref fp_top :: rsp_top))
    (lp_top : K.lookup fp_top = some ⟨ocp_top, odp_top, .func (PySem.W.fnOf "top" "Number.top" (defArgs (inClass (topS 18) 3)) (defBody (inClass (topS 18) 3)) (defScope (inClass (topS 18) 3)) .none kVp_top dcp_top pmp_top anp_top cdp_top ctp_top), slp_top⟩)
    (cp_top : PySem.W.codeIn K cdp_top "Number.top" = true)
    (kp_top : PySem.W.keepIn K (.ref fp_top) = true)
    (ap_part : PySem.W.findIn K (.ref CN) "part" = some (some (.ref dp_part)))
    (sp_part : PySem.W.specialIn K (.ref dp_part) "__get__" = some (some (.builtin "property.__get__")))
    (tp_part : PySem.W.takesIn K (.ref dp_part) = some true)
    (rp_part : PySem.W.recIn K dp_part "property" = some (.ref fp_part :: rsp_part))
    (lp_part : K.lookup fp_part = some ⟨ocp_part, odp_part, .func (PySem.W.fnOf "part" "Number.part" (defArgs (inClass (topS 18) 4)) (defBody (inClass (topS 18) 4)) (defScope (inClass (topS 18) 4)) .none kVp_part dcp_part pmp_part anp_part cdp_part ctp_part), slp_part⟩)
    (cp_part : PySem.W.codeIn K cdp_part "Number.part" = true)
    (kp_part : PySem.W.keepIn K (.ref fp_part) = true)
    (ap_root : PySem.W.findIn K (.ref CN) "root" = some (some (.ref dp_root)))
    (sp_root : PySem.W.specialIn K (.ref dp_root) "__get__" = some (some (.builtin "property.__get__")))
    (tp_root : PySem.W.takesIn K (.ref dp_root) = some true)
    (rp_root : PySem.W.recIn K dp_root "property" = some (.ref fp_root :: rsp_root))
    (lp_root : K.lookup fp_root = some ⟨ocp_root, odp_root, .func (PySem.W.fnOf "root" "Number.root" (defArgs (inClass (topS 18) 5)) (defBody (inClass (topS 18) 5)) (defScope (inClass (topS 18) 5)) .none kVp_root dcp_root pmp_root anp_root cdp_root ctp_root), slp_root⟩)
    (cp_root : PySem.W.codeIn K cdp_root "Number.root" = true)
    (kp_root : PySem.W.keepIn K (.ref fp_root) = true)
    (ap_bottom : PySem.W.findIn K (.ref CN) "bottom" = some (some (.ref dp_bottom)))
    (sp_bottom : PySem.W.specialIn K (.ref dp_bottom) "__get__" = some (some (.builtin "property.__get__")))
    (tp_bottom : PySem.W.takesIn K (.ref dp_bottom) = some true)
    (rp_bottom : PySem.W.recIn K dp_bottom "property" = some (.ref fp_bottom :: rsp_bottom))
    (lp_bottom : K.lookup fp_bottom = some ⟨ocp_bottom, odp_bottom, .func (PySem.W.fnOf "bottom" "Number.bottom" (defArgs (inClass (topS 18) 6)) (defBody (inClass (topS 18) 6)) (defScope (inClass (topS 18) 6)) .none kVp_bottom dcp_bottom pmp_bottom anp_bottom cdp_bottom ctp_bottom), slp_bottom⟩)
    (cp_bottom : PySem.W.codeIn K cdp_bottom "Number.bottom" = true)
    (kp_bottom : PySem.W.keepIn K (.ref fp_bottom) = true)
    (aeq : PySem.W.findIn K (.ref CN) "__eq__" = some (some (.ref feq)))
    (leq : K.lookup feq = some ⟨oceq, odeq, .func (PySem.W.fnOf "__eq__" "Number.__eq__" (defArgs (inClass (topS 18) 17)) (defBody (inClass (topS 18) 17)) (defScope (inClass (topS 18) 17)) .none kVeq dceq pmeq aneq cdeq cteq), sleq⟩)
    (ceq : PySem.W.codeIn K cdeq "Number.__eq__" = true)
    (keq : PySem.W.keepIn K (.ref feq) = true)
    (ieq : PySem.W.isFn K (.ref feq) = true)
    (ne : PySem.W.findIn K (.ref CN) "__ne__" = some (some (.builtin "object.__ne__")))
    (astr : PySem.W.findIn K (.ref CN) "__str__" = some (some (.ref fstr)))
    (lstr : K.lookup fstr = some ⟨ocstr, odstr, .func (PySem.W.fnOf "__str__" "Number.__str__" (defArgs (inClass (topS 18) 18)) (defBody (inClass (topS 18) 18)) (defScope (inClass (topS 18) 18)) .none kVstr dcstr pmstr anstr cdstr ctstr), slstr⟩)
    (cstr : PySem.W.codeIn K cdstr "Number.__str__" = true)
    (kstr : PySem.W.keepIn K (.ref fstr) = true)
    (istr : PySem.W.isFn K (.ref fstr) = true)
    (at9 : PySem.W.nsIn K mainGlobals "_law_dice" = some (some (.ref ft9)))
    (lt9 : K.lookup ft9 = some ⟨oct9, odt9, .func (PySem.W.fnOf "_law_dice" "_law_dice" (defArgs (topS 26)) (defBody (topS 26)) (defScope (topS 26)) .none kVt9 dct9 pmt9 ant9 cdt9 ctt9), slt9⟩)
    (ct9 : PySem.W.codeIn K cdt9 "_law_dice" = true)
    (kt9 : PySem.W.keepIn K (.ref ft9) = true)
    (at10 : PySem.W.nsIn K mainGlobals "_law_roll" = some (some (.ref ft10)))
    (lt10 : K.lookup ft10 = some ⟨oct10, odt10, .func (PySem.W.fnOf "_law_roll" "_law_roll" (defArgs (topS 27)) (defBody (topS 27)) (defScope (topS 27)) .none kVt10 dct10 pmt10 ant10 cdt10 ctt10), slt10⟩)
    (ct10 : PySem.W.codeIn K cdt10 "_law_roll" = true)
    (kt10 : PySem.W.keepIn K (.ref ft10) = true)
    (at11 : PySem.W.nsIn K mainGlobals "_law_pick" = some (some (.ref ft11)))
    (lt11 : K.lookup ft11 = some ⟨oct11, odt11, .func (PySem.W.fnOf "_law_pick" "_law_pick" (defArgs (topS 28)) (defBody (topS 28)) (defScope (topS 28)) .none kVt11 dct11 pmt11 ant11 cdt11 ctt11), slt11⟩)
    (ct11 : PySem.W.codeIn K cdt11 "_law_pick" = true)
    (kt11 : PySem.W.keepIn K (.ref ft11) = true)
    (at12 : PySem.W.nsIn K mainGlobals "integer_in" = some (some (.ref ft12)))
    (lt12 : K.lookup ft12 = some ⟨oct12, odt12, .func (PySem.W.fnOf "integer_in" "integer_in" (defArgs (topS 22)) (defBody (topS 22)) (defScope (topS 22)) .none kVt12 dct12 pmt12 ant12 cdt12 ctt12), slt12⟩)
    (ct12 : PySem.W.codeIn K cdt12 "integer_in" = true)
    (kt12 : PySem.W.keepIn K (.ref ft12) = true)
    (at13 : PySem.W.nsIn K mainGlobals "parts_in" = some (some (.ref ft13)))
    (lt13 : K.lookup ft13 = some ⟨oct13, odt13, .func (PySem.W.fnOf "parts_in" "parts_in" (defArgs (topS 23)) (defBody (topS 23)) (defScope (topS 23)) .none kVt13 dct13 pmt13 ant13 cdt13 ctt13), slt13⟩)
    (ct13 : PySem.W.codeIn K cdt13 "parts_in" = true)
    (kt13 : PySem.W.keepIn K (.ref ft13) = true)
    (at14 : PySem.W.nsIn K mainGlobals "number_in" = some (some (.ref ft14)))
    (lt14 : K.lookup ft14 = some ⟨oct14, odt14, .func (PySem.W.fnOf "number_in" "number_in" (defArgs (topS 24)) (defBody (topS 24)) (defScope (topS 24)) .none kVt14 dct14 pmt14 ant14 cdt14 ctt14), slt14⟩)
    (ct14 : PySem.W.codeIn K cdt14 "number_in" = true)
    (kt14 : PySem.W.keepIn K (.ref ft14) = true)
    (rdCN : PySem.W.readsIn K CN (.type "type") = true)
    (gaCN : PySem.W.specialIn K (.ref CN) "__getattribute__" = some (some (.builtin "type.__getattribute__")))
    (acCN_read : PySem.W.findCls K (.ref CN) (.type "type") "read" = some (.get (.builtin "classmethod.__get__") (.ref dcCN_read) .none (.ref CN)))
    (rcCN_read : PySem.W.recIn K dcCN_read "classmethod" = some (.ref fcCN_read :: rscCN_read))
    (lcCN_read : K.lookup fcCN_read = some ⟨occCN_read, odcCN_read, .func (PySem.W.fnOf "read" "Number.read" (defArgs (inClass (topS 18) 2)) (defBody (inClass (topS 18) 2)) (defScope (inClass (topS 18) 2)) .none kVcCN_read dccCN_read pmcCN_read ancCN_read cdcCN_read ctcCN_read), slcCN_read⟩)
    (ccCN_read : PySem.W.codeIn K cdcCN_read "Number.read" = true)
    (kcCN_read : PySem.W.keepIn K (.ref fcCN_read) = true)
    (icCN_read : PySem.W.fnIn K fcCN_read = true)
    (iN_str : PySem.W.kitOne K (.ref CN) (.type "str") = some false)
    (xa_PieceError : PySem.W.nsIn K mainGlobals "PieceError" = some (some (.ref A_PieceError)))
    (xe_PieceError : PySem.W.excIn K A_PieceError [.type "ValueError", .type "Exception", .type "BaseException", .type "object"] "ValueError.__new__" = true)
    (xk_PieceError : PySem.W.keepIn K (.ref A_PieceError) = true)
    (xs_PieceError : PySem.W.subIn K (.ref A_PieceError) (.type "BaseException") = some true)
    (xt_PieceError : PySem.W.typeIn K (.ref A_PieceError) = some (.type "type"))
    (pfile : prog.main.file = "/claim/cut.py")
    (ptop : (prog.main.scope.names.lookup ("super" : Str)).isSome = false)
    (ycs : PySem.W.nsIn K cStatics "thirdparty.any" = some none)
    (z_super : PySem.W.nsIn K mainGlobals "super" = some none)
    (xa_ParseError : PySem.W.nsIn K mainGlobals "ParseError" = some (some (.ref A_ParseError)))
    (yi_ParseError : PySem.W.findIn K (.ref A_ParseError) "__init__" = some (some (.ref fI_ParseError)))
    (ye_ParseError : PEO.errB K A_ParseError [.ref A_PieceError, .type "ValueError", .type "Exception", .type "BaseException", .type "object"] "ValueError.__new__" = true)
    (yl_ParseError : PySem.W.alongIn K "__init__" [.ref A_PieceError, .type "ValueError", .type "Exception", .type "BaseException", .type "object"] = some (some (.builtin "ValueError.__init__")))
    (yf_ParseError : PEO.fwC K fI_ParseError = PEO.fwCV "__init__" "ParseError.__init__" (defArgs (inClass (topS 4) 0)) (defBody (inClass (topS 4) 0)) (defScope (inClass (topS 4) 0)))
    (yb_ParseError : PEO.codeB K fI_ParseError = true)
    (yk_ParseError : PySem.W.codeIn K (.ref (PEO.codeA K fI_ParseError)) "ParseError.__init__" = true)
    (yc_ParseError : PEO.cellB K (PEO.cellA K fI_ParseError) A_ParseError = true)
    (yo_ParseError : PEO.fileB K (PEO.codeA K fI_ParseError) "/claim/cut.py" = true)
    (yt_ParseError : PySem.W.findIn K (.ref A_ParseError) "__setattr__" = some (some (.builtin "object.__setattr__")))
    (yn_ParseError : PySem.W.findIn K (.ref A_ParseError) "index" = some none)
    (yv_ParseError : PySem.W.excOver K A_ParseError [.type "ValueError", .type "Exception", .type "BaseException", .type "object"] = true)
    (yx_ParseError : PySem.W.subIn K (.ref A_ParseError) (.type "BaseException") = some true)
    (yy_ParseError : PySem.W.typeIn K (.ref A_ParseError) = some (.type "type"))
    (yz_ParseError : PySem.W.keepIn K (.ref A_ParseError) = true)
    (yw_ParseError : PySem.W.typeIn K (.ref fI_ParseError) = some (.type "function"))
    (yq_ParseError : xfB K A_ParseError = true)
    (at15 : PySem.W.nsIn K mainGlobals "_law_common" = some (some (.ref ft15)))
    (lt15 : K.lookup ft15 = some ⟨oct15, odt15, .func (PySem.W.fnOf "_law_common" "_law_common" (defArgs (topS 29)) (defBody (topS 29)) (defScope (topS 29)) .none kVt15 dct15 pmt15 ant15 cdt15 ctt15), slt15⟩)
    (ct15 : PySem.W.codeIn K cdt15 "_law_common" = true)
    (kt15 : PySem.W.keepIn K (.ref ft15) = true)
    (at16 : PySem.W.nsIn K mainGlobals "_law_least" = some (some (.ref ft16)))
    (lt16 : K.lookup ft16 = some ⟨oct16, odt16, .func (PySem.W.fnOf "_law_least" "_law_least" (defArgs (topS 30)) (defBody (topS 30)) (defScope (topS 30)) .none kVt16 dct16 pmt16 ant16 cdt16 ctt16), slt16⟩)
    (ct16 : PySem.W.codeIn K cdt16 "_law_least" = true)
    (kt16 : PySem.W.keepIn K (.ref ft16) = true)
    (at17 : PySem.W.nsIn K mainGlobals "_law_parts_drawn" = some (some (.ref ft17)))
    (lt17 : K.lookup ft17 = some ⟨oct17, odt17, .func (PySem.W.fnOf "_law_parts_drawn" "_law_parts_drawn" (defArgs (topS 31)) (defBody (topS 31)) (defScope (topS 31)) .none kVt17 dct17 pmt17 ant17 cdt17 ctt17), slt17⟩)
    (ct17 : PySem.W.codeIn K cdt17 "_law_parts_drawn" = true)
    (kt17 : PySem.W.keepIn K (.ref ft17) = true)
    (at18 : PySem.W.nsIn K mainGlobals "_law_made" = some (some (.ref ft18)))
    (lt18 : K.lookup ft18 = some ⟨oct18, odt18, .func (PySem.W.fnOf "_law_made" "_law_made" (defArgs (topS 32)) (defBody (topS 32)) (defScope (topS 32)) .none kVt18 dct18 pmt18 ant18 cdt18 ctt18), slt18⟩)
    (ct18 : PySem.W.codeIn K cdt18 "_law_made" = true)
    (kt18 : PySem.W.keepIn K (.ref ft18) = true)
    (at19 : PySem.W.nsIn K mainGlobals "_law_form" = some (some (.ref ft19)))
    (lt19 : K.lookup ft19 = some ⟨oct19, odt19, .func (PySem.W.fnOf "_law_form" "_law_form" (defArgs (topS 33)) (defBody (topS 33)) (defScope (topS 33)) .none kVt19 dct19 pmt19 ant19 cdt19 ctt19), slt19⟩)
    (ct19 : PySem.W.codeIn K cdt19 "_law_form" = true)
    (kt19 : PySem.W.keepIn K (.ref ft19) = true)
    (at20 : PySem.W.nsIn K mainGlobals "_law_text" = some (some (.ref ft20)))
    (lt20 : K.lookup ft20 = some ⟨oct20, odt20, .func (PySem.W.fnOf "_law_text" "_law_text" (defArgs (topS 34)) (defBody (topS 34)) (defScope (topS 34)) .none kVt20 dct20 pmt20 ant20 cdt20 ctt20), slt20⟩)
    (ct20 : PySem.W.codeIn K cdt20 "_law_text" = true)
    (kt20 : PySem.W.keepIn K (.ref ft20) = true)
    (at21 : PySem.W.nsIn K mainGlobals "_law_integer" = some (some (.ref ft21)))
    (lt21 : K.lookup ft21 = some ⟨oct21, odt21, .func (PySem.W.fnOf "_law_integer" "_law_integer" (defArgs (topS 35)) (defBody (topS 35)) (defScope (topS 35)) .none kVt21 dct21 pmt21 ant21 cdt21 ctt21), slt21⟩)
    (ct21 : PySem.W.codeIn K cdt21 "_law_integer" = true)
    (kt21 : PySem.W.keepIn K (.ref ft21) = true)
    (at22 : PySem.W.nsIn K mainGlobals "_law_free_of_squares" = some (some (.ref ft22)))
    (lt22 : K.lookup ft22 = some ⟨oct22, odt22, .func (PySem.W.fnOf "_law_free_of_squares" "_law_free_of_squares" (defArgs (topS 36)) (defBody (topS 36)) (defScope (topS 36)) .none kVt22 dct22 pmt22 ant22 cdt22 ctt22), slt22⟩)
    (ct22 : PySem.W.codeIn K cdt22 "_law_free_of_squares" = true)
    (kt22 : PySem.W.keepIn K (.ref ft22) = true)
    (at23 : PySem.W.nsIn K mainGlobals "_law_sides" = some (some (.ref ft23)))
    (lt23 : K.lookup ft23 = some ⟨oct23, odt23, .func (PySem.W.fnOf "_law_sides" "_law_sides" (defArgs (topS 37)) (defBody (topS 37)) (defScope (topS 37)) .none kVt23 dct23 pmt23 ant23 cdt23 ctt23), slt23⟩)
    (ct23 : PySem.W.codeIn K cdt23 "_law_sides" = true)
    (kt23 : PySem.W.keepIn K (.ref ft23) = true)
    (at24 : PySem.W.nsIn K mainGlobals "_law_told" = some (some (.ref ft24)))
    (lt24 : K.lookup ft24 = some ⟨oct24, odt24, .func (PySem.W.fnOf "_law_told" "_law_told" (defArgs (topS 38)) (defBody (topS 38)) (defScope (topS 38)) .none kVt24 dct24 pmt24 ant24 cdt24 ctt24), slt24⟩)
    (ct24 : PySem.W.codeIn K cdt24 "_law_told" = true)
    (kt24 : PySem.W.keepIn K (.ref ft24) = true)
    (at25 : PySem.W.nsIn K mainGlobals "_law_bent" = some (some (.ref ft25)))
    (lt25 : K.lookup ft25 = some ⟨oct25, odt25, .func (PySem.W.fnOf "_law_bent" "_law_bent" (defArgs (topS 39)) (defBody (topS 39)) (defScope (topS 39)) .none kVt25 dct25 pmt25 ant25 cdt25 ctt25), slt25⟩)
    (ct25 : PySem.W.codeIn K cdt25 "_law_bent" = true)
    (kt25 : PySem.W.keepIn K (.ref ft25) = true)
    (at26 : PySem.W.nsIn K mainGlobals "_law_read" = some (some (.ref ft26)))
    (lt26 : K.lookup ft26 = some ⟨oct26, odt26, .func (PySem.W.fnOf "_law_read" "_law_read" (defArgs (topS 40)) (defBody (topS 40)) (defScope (topS 40)) .none kVt26 dct26 pmt26 ant26 cdt26 ctt26), slt26⟩)
    (ct26 : PySem.W.codeIn K cdt26 "_law_read" = true)
    (kt26 : PySem.W.keepIn K (.ref ft26) = true)
    (E_ParseError_ParseError : PySem.W.exmOne K (.ref A_ParseError) (.ref A_ParseError) = some true)
    (at27 : PySem.W.nsIn K mainGlobals "_law_right" = some (some (.ref ft27)))
    (lt27 : K.lookup ft27 = some ⟨oct27, odt27, .func (PySem.W.fnOf "_law_right" "_law_right" (defArgs (topS 41)) (defBody (topS 41)) (defScope (topS 41)) .none kVt27 dct27 pmt27 ant27 cdt27 ctt27), slt27⟩)
    (ct27 : PySem.W.codeIn K cdt27 "_law_right" = true)
    (kt27 : PySem.W.keepIn K (.ref ft27) = true)
    (at28 : PySem.W.nsIn K mainGlobals "law" = some (some (.ref ft28)))
    (lt28 : K.lookup ft28 = some ⟨oct28, odt28, .func (PySem.W.fnOf "law" "law" (defArgs (topS 42)) (defBody (topS 42)) (defScope (topS 42)) .none kVt28 dct28 pmt28 ant28 cdt28 ctt28), slt28⟩)
    (ct28 : PySem.W.codeIn K cdt28 "law" = true)
    (kt28 : PySem.W.keepIn K (.ref ft28) = true)
    (gFIGURES : PySem.W.nsIn K mainGlobals "FIGURES" = some (some (.str "0123456789" tkFIGURES)))
    (gLEAST_ROOT : PySem.W.nsIn K mainGlobals "LEAST_ROOT" = some (some (.int 2 tkLEAST_ROOT)))
    (gMAX_ROOT : PySem.W.nsIn K mainGlobals "MAX_ROOT" = some (some (.int 999 tkMAX_ROOT)))
    (gMOST_FIGURES : PySem.W.nsIn K mainGlobals "MOST_FIGURES" = some (some (.int 1000 tkMOST_FIGURES)))
    : ∀ base : Heap, K.In base → base.Ns mainGlobals mg → FnG prog w K mg base 12 fa 1 (spLaw K) := by
  have e := hfa.symm.trans (PySem.W.mg_of X G at28)
  cases e
  intro base _ _
  have fr : Free mg := ⟨PySem.W.mg_none_of X G z_abs, PySem.W.mg_none_of X G z_all, PySem.W.mg_none_of X G z_bool, PySem.W.mg_none_of X G z_int, PySem.W.mg_none_of X G z_isinstance, PySem.W.mg_none_of X G z_len, PySem.W.mg_none_of X G z_max, PySem.W.mg_none_of X G z_min, PySem.W.mg_none_of X G z_range, PySem.W.mg_none_of X G z_repr, PySem.W.mg_none_of X G z_str⟩
  have TN : NTxt K mg CN CF := ⟨PySem.W.mg_of X G aN, PySem.W.mg_of X G aF, ⟨pgN, icN, poN, saN⟩, ⟨pgF, icF, poF, saF⟩, ⟨caN, cn, ct, cmN⟩, ⟨caF, cn, ct, cmF⟩,
    ⟨_, saNtop, sgNtop, stNtop, syNtop, sxNtop, by decide⟩, ⟨_, saNpart, sgNpart, stNpart, syNpart, sxNpart, by decide⟩, ⟨_, saNroot, sgNroot, stNroot, syNroot, sxNroot, by decide⟩, ⟨_, saNbottom, sgNbottom, stNbottom, syNbottom, sxNbottom, by decide⟩, ⟨_, saFtop, sgFtop, stFtop, syFtop, sxFtop, by decide⟩, ⟨_, saFpart, sgFpart, stFpart, syFpart, sxFpart, by decide⟩, ⟨_, saFroot, sgFroot, stFroot, syFroot, sxFroot, by decide⟩, ⟨_, saFbottom, sgFbottom, stFbottom, syFbottom, sxFbottom, by decide⟩, kit_self, kit_self, kit_own rfl icF tyF suF, kit_own rfl icN tyN suN, kit_bi (by decide +kernel) suI⟩
  have T := TN
  have Ft0 := fun_mk (st := topS 6) lt0 ct0 kt0
  have Bt0 := Ft0.binds (ps := ["value"]) fun _ _ _ _ _ _ us hl => match us, hl with | [_], _ => rfl
  have G_is_whole : GD prog w K mg base "is_whole" 2 (spIsWhole K) := ⟨_, _, _, PySem.W.mg_of X G at0, kt0, Bt0, PF.ok_is_whole Ft0 fr⟩
  have Ft1 := fun_mk (st := topS 7) lt1 ct1 kt1
  have Bt1 := Ft1.binds (ps := ["one", "other"]) fun _ _ _ _ _ _ us hl => match us, hl with | [_, _], _ => rfl
  have G_greatest_divisor : GD prog w K mg base "greatest_divisor" 2 spGcd := ⟨_, _, _, PySem.W.mg_of X G at1, kt1, Bt1, PF.ok_gcd Ft1⟩
  have Ft2 := fun_mk (st := topS 8) lt2 ct2 kt2
  have Bt2 := Ft2.binds (ps := ["square"]) fun _ _ _ _ _ _ us hl => match us, hl with | [_], _ => rfl
  have G_whole_root : GD prog w K mg base "whole_root" 2 spRoot := ⟨_, _, _, PySem.W.mg_of X G at2, kt2, Bt2, PF.ok_whole_root Ft2⟩
  have Ft3 := fun_mk (st := topS 14) lt3 ct3 kt3
  have Bt3 := Ft3.binds (ps := ["value"]) fun _ _ _ _ _ _ us hl => match us, hl with | [_], _ => rfl
  have G_is_root : GD prog w K mg base "is_root" 3 spIsRoot := ⟨_, _, _, PySem.W.mg_of X G at3, kt3, Bt3, PF.ok_is_root Ft3 fr ⟨_, PySem.W.mg_of X G gMAX_ROOT⟩ ⟨_, PySem.W.mg_of X G gLEAST_ROOT⟩ G_whole_root G_is_whole⟩
  have G_is_root_O : GD prog w K mg base "is_root" 3 spIsRootO := ⟨_, _, _, PySem.W.mg_of X G at3, kt3, Bt3, FnOk.imp (FnOk.or (FnOk.mono (PF.ok_is_root Ft3 fr ⟨_, PySem.W.mg_of X G gMAX_ROOT⟩ ⟨_, PySem.W.mg_of X G gLEAST_ROOT⟩ G_whole_root G_is_whole) (by decide)) (FnOk.mono (PF.ok_is_rootN Ft3 fr ⟨_, PySem.W.mg_of X G gMAX_ROOT⟩ ⟨_, PySem.W.mg_of X G gLEAST_ROOT⟩ G_whole_root G_is_whole) (by decide))) un_is_root_O⟩
  have Ft4 := fun_mk (st := topS 15) lt4 ct4 kt4
  have Bt4 := Ft4.binds (ps := ["top", "part", "root", "bottom"]) fun _ _ _ _ _ _ us hl => match us, hl with | [_, _, _, _], _ => rfl
  have G_told_number : GD prog w K mg base "told_number" 2 spTold := ⟨_, _, _, PySem.W.mg_of X G at4, kt4, Bt4, ok_told Ft4 fr yd⟩
  have Ffi := fun_mk (st := (inClass (topS 16) 1)) lfi cfi kfi
  have Bfi := Ffi.binds (ps := ["self", "top", "part", "root", "bottom"]) fun _ _ _ _ _ _ us hl => match us, hl with | [_, _, _, _, _], _ => rfl
  have G_Form : GM prog w K mg base "Form" CF 3 [] (spFormI CF) := ⟨_, _, _, _, PySem.W.mg_of X G aF, ⟨mkF, afi, ifi, kcF⟩, Bfi, .nil, ok_form_init Ffi fr T G_greatest_divisor⟩
  have Ft5 := fun_mk (st := topS 17) lt5 ct5 kt5
  have Bt5 := Ft5.binds (ps := ["top", "part", "root", "bottom"]) fun _ _ _ _ _ _ us hl => match us, hl with | [_, _, _, _], _ => rfl
  have G_form_in : GD prog w K mg base "form_in" 5 (spFormIn CF) := ⟨_, _, _, PySem.W.mg_of X G at5, kt5, Bt5, PF.ok_form_in Ft5 fr T G_is_whole G_is_root G_Form⟩
  have Fni : FunD K "__init__" "Number.__init__" (defArgs (inClass (topS 18) 1)) (defBody (inClass (topS 18) 1)) (defScope (inClass (topS 18) 1)) [.int 0] [("root", .int 0), ("bottom", .int 1)] fni _ := ⟨⟨ocni, odni, .ref aT, .ref aD, dcni, pmni, anni, cdni, ctni, slni, rfl, lni, cni, .inr ⟨by simp, aT, _, [.int 0 tk0], mT, rfl, lT, rfl, .cons ⟨_, rfl⟩ .nil⟩, .inr ⟨aD, rfl, num_kwd nDr nDb⟩⟩, kni⟩
  have okN := ok_num_init (P := prog) (w := w) (base := base) Fni TN G_form_in
  obtain ⟨ds, rds, Bni⟩ := num_binds Fni
  have MkN : Mk K CN fni := ⟨mkN, ani, ini, kcN⟩
  have G_Number : GM prog w K mg base "Number" CN 6 [.int 0, .int 0, .int 1] (spNumI CN CF) := ⟨_, _, _, _, PySem.W.mg_of X G aN, MkN, Bni, rds, okN⟩
  obtain ⟨its_Number2root, mv_Number2root, K_Number2root⟩ := kb_Number2root Fni
  have G_Number2root : GMKg prog w K mg base "Number" CN 6 2 ["root"] (fun vs zs => vs ++ zs ++ [V.int 1]) (spNumI CN CF) := ⟨_, _, _, _, PySem.W.mg_of X G aN, MkN, K_Number2root, okN⟩
  obtain ⟨its4, Kni⟩ := num_kbinds Fni
  have G_NumberK : GMK prog w K mg base "Number" CN 6 2 ["root", "bottom"] (spNumI CN CF) := ⟨_, _, _, _, PySem.W.mg_of X G aN, MkN, Kni, okN⟩
  have Ft6 := fun_mk (st := topS 19) lt6 ct6 kt6
  have Bt6 := Ft6.binds (ps := ["value"]) fun _ _ _ _ _ _ us hl => match us, hl with | [_], _ => rfl
  have G_is_like_number : GD prog w K mg base "is_like_number" 3 (spLike CN) := ⟨_, _, _, PySem.W.mg_of X G at6, kt6, Bt6, PF.ok_is_like Ft6 fr T G_is_whole⟩
  have Ft7 := fun_mk (st := topS 20) lt7 ct7 kt7
  have Bt7 := Ft7.binds (ps := ["value"]) fun _ _ _ _ _ _ us hl => match us, hl with | [_], _ => rfl
  have G_number_of : GD prog w K mg base "number_of" 8 (spNumOf CN) := ⟨_, _, _, PySem.W.mg_of X G at7, kt7, Bt7, PF.ok_number_of Ft7 fr T G_Form G_Number⟩
  have Ft8 := fun_mk (st := topS 21) lt8 ct8 kt8
  have Bt8 := Ft8.binds (ps := ["one", "other"]) fun _ _ _ _ _ _ us hl => match us, hl with | [_, _], _ => rfl
  have G_common_root : GD prog w K mg base "common_root" 2 (spCommon CN) := ⟨_, _, _, PySem.W.mg_of X G at8, kt8, Bt8, PF.ok_common_root Ft8 T⟩
  have Fadd := fun_mk (st := (inClass (topS 18) 13)) ladd cadd kadd
  have Badd := Fadd.binds (ps := ["self", "other"]) fun _ _ _ _ _ _ us hl => match us, hl with | [_, _], _ => rfl
  have G_add : GB prog w K mg base CN .Add 9 (spBin CN addN fun _ _ => True) := ⟨⟨_, aadd, iadd, fnR_of (PF.ok_add Fadd fr T G_is_like_number G_number_of G_common_root G_Form G_Number) Badd⟩, sfN, ⟨_, _, _, rcadd, .inl rfl, foadd, roadd, suN⟩⟩
  have Fsub := fun_mk (st := (inClass (topS 18) 14)) lsub csub ksub
  have Bsub := Fsub.binds (ps := ["self", "other"]) fun _ _ _ _ _ _ us hl => match us, hl with | [_, _], _ => rfl
  have G_sub : GB prog w K mg base CN .Sub 9 (spBin CN subN fun _ _ => True) := ⟨⟨_, asub, isub, fnR_of (PF.ok_sub Fsub fr T G_is_like_number G_number_of G_common_root G_Form G_Number) Bsub⟩, sfN, ⟨_, _, _, rcsub, .inl rfl, fosub, rosub, suN⟩⟩
  have Fmul := fun_mk (st := (inClass (topS 18) 15)) lmul cmul kmul
  have Bmul := Fmul.binds (ps := ["self", "other"]) fun _ _ _ _ _ _ us hl => match us, hl with | [_, _], _ => rfl
  have G_mul : GB prog w K mg base CN .Mult 9 (spBin CN mulN fun _ _ => True) := ⟨⟨_, amul, imul, fnR_of (PF.ok_mul Fmul fr T G_is_like_number G_number_of G_common_root G_Form G_Number) Bmul⟩, sfN, ⟨_, _, _, rcmul, .inl rfl, fomul, romul, suN⟩⟩
  have Fp_top := fun_mk (st := (inClass (topS 18) 3)) lp_top cp_top kp_top
  have Bp_top := Fp_top.binds (ps := ["self"]) fun _ _ _ _ _ _ us hl => match us, hl with | [_], _ => rfl
  have P_top : GP prog w K mg base CN "top" 2 (spInt0 CN fun n => n.t) := ⟨_, _, ap_top, sp_top, tp_top, ⟨_, rp_top⟩, fnR_of (PF.ok_p_top Fp_top T) Bp_top⟩
  have Fp_part := fun_mk (st := (inClass (topS 18) 4)) lp_part cp_part kp_part
  have Bp_part := Fp_part.binds (ps := ["self"]) fun _ _ _ _ _ _ us hl => match us, hl with | [_], _ => rfl
  have P_part : GP prog w K mg base CN "part" 2 (spInt0 CN fun n => n.p) := ⟨_, _, ap_part, sp_part, tp_part, ⟨_, rp_part⟩, fnR_of (PF.ok_p_part Fp_part T) Bp_part⟩
  have Fp_root := fun_mk (st := (inClass (topS 18) 5)) lp_root cp_root kp_root
  have Bp_root := Fp_root.binds (ps := ["self"]) fun _ _ _ _ _ _ us hl => match us, hl with | [_], _ => rfl
  have P_root : GP prog w K mg base CN "root" 2 (spInt0 CN fun n => n.r) := ⟨_, _, ap_root, sp_root, tp_root, ⟨_, rp_root⟩, fnR_of (PF.ok_p_root Fp_root T) Bp_root⟩
  have Fp_bottom := fun_mk (st := (inClass (topS 18) 6)) lp_bottom cp_bottom kp_bottom
  have Bp_bottom := Fp_bottom.binds (ps := ["self"]) fun _ _ _ _ _ _ us hl => match us, hl with | [_], _ => rfl
  have P_bottom : GP prog w K mg base CN "bottom" 2 (spInt0 CN fun n => n.b) := ⟨_, _, ap_bottom, sp_bottom, tp_bottom, ⟨_, rp_bottom⟩, fnR_of (PF.ok_p_bottom Fp_bottom T) Bp_bottom⟩
  have Feq := fun_mk (st := (inClass (topS 18) 17)) leq ceq keq
  have Beq := Feq.binds (ps := ["self", "other"]) fun _ _ _ _ _ _ us hl => match us, hl with | [_, _], _ => rfl
  have G_eq : GE prog w K mg base CN 2 (spEq K CN) := ⟨⟨_, aeq, ieq, fnR_of (PF.ok_eq Feq fr T) Beq⟩, ne, cmN⟩
  have Fstr := fun_mk (st := (inClass (topS 18) 18)) lstr cstr kstr
  have Bstr := Fstr.binds (ps := ["self"]) fun _ _ _ _ _ _ us hl => match us, hl with | [_], _ => rfl
  have S_str : GS prog w K mg base CN 3 (spStr CN) := ⟨_, astr, istr, fnR_of (ok_str Fstr fr T G_told_number) Bstr⟩
  have Ft9 := fun_mk (st := topS 26) lt9 ct9 kt9
  have Bt9 := Ft9.binds (ps := ["_law_script", "_law_spot"]) fun _ _ _ _ _ _ us hl => match us, hl with | [_, _], _ => rfl
  have G__law_dice : GD prog w K mg base "_law_dice" 2 (spDice K) := ⟨_, _, _, PySem.W.mg_of X G at9, kt9, Bt9, PF.ok_dice Ft9 fr⟩
  have Ft10 := fun_mk (st := topS 27) lt10 ct10 kt10
  have Bt10 := Ft10.binds (ps := ["_law_dice_here", "_law_total"]) fun _ _ _ _ _ _ us hl => match us, hl with | [_, _], _ => rfl
  have G__law_roll : GD prog w K mg base "_law_roll" 2 spRoll := ⟨_, _, _, PySem.W.mg_of X G at10, kt10, Bt10, PF.ok_roll Ft10 fr⟩
  have Ft11 := fun_mk (st := topS 28) lt11 ct11 kt11
  have Bt11 := Ft11.binds (ps := ["_law_dice_here", "_law_items"]) fun _ _ _ _ _ _ us hl => match us, hl with | [_, _], _ => rfl
  have G__law_pick : GD prog w K mg base "_law_pick" 3 spPick := ⟨_, _, _, PySem.W.mg_of X G at11, kt11, Bt11, PF.ok_pick Ft11 fr G__law_roll⟩
  have Ft12 := fun_mk (st := topS 22) lt12 ct12 kt12
  have Bt12 := Ft12.binds (ps := ["text"]) fun _ _ _ _ _ _ us hl => match us, hl with | [_], _ => rfl
  have G_integer_in : GD prog w K mg base "integer_in" 2 (spOf (aCons rStr aNil) (rOpt rInt) m_integer_in) := ⟨_, _, _, PySem.W.mg_of X G at12, kt12, Bt12, PF2.ok_integer_in Ft12 fr ⟨_, PySem.W.mg_of X G gMOST_FIGURES⟩ ⟨_, PySem.W.mg_of X G gFIGURES⟩ yd⟩
  have Ft13 := fun_mk (st := topS 23) lt13 ct13 kt13
  have Bt13 := Ft13.binds (ps := ["ahead"]) fun _ _ _ _ _ _ us hl => match us, hl with | [_], _ => rfl
  have G_parts_in : GD prog w K mg base "parts_in" 2 (spOf (aCons rStr aNil) (rTx K (aCons rStr (aCons rStr aNil))) m_parts_in) := ⟨_, _, _, PySem.W.mg_of X G at13, kt13, Bt13, PF2.ok_parts_in Ft13⟩
  have Ft14 := fun_mk (st := topS 24) lt14 ct14 kt14
  have Bt14 := Ft14.binds (ps := ["text"]) fun _ _ _ _ _ _ us hl => match us, hl with | [_], _ => rfl
  have G_number_in : GD prog w K mg base "number_in" 8 (spOf (aCons rStr aNil) (rOpt (rNum CN)) m_number_in) := ⟨_, _, _, PySem.W.mg_of X G at14, kt14, Bt14, PF2.ok_number_in Ft14 G_integer_in G_parts_in G_is_root_O G_Number G_Form⟩
  have FcCN_read := fun_mk (st := (inClass (topS 18) 2)) lcCN_read ccCN_read kcCN_read
  have BcCN_read := FcCN_read.binds (ps := ["cls", "text"]) fun _ _ _ _ _ _ us hl => match us, hl with | [_, _], _ => rfl
  have C_Number_read : GCm prog w K mg base CN "read" 9 (spOf (aCons (rCls CN) (aCons rStr aNil)) (rNum CN) m_Number_read) := ⟨.type "type", _, _, ⟨rdCN, gaCN⟩, ⟨acCN_read, ⟨_, rcCN_read⟩, icCN_read⟩, fnR_of (PF2.ok_Number_read FcCN_read fr G_number_in TN S_str) BcCN_read⟩
  have X_PieceError : GX K mg "PieceError" A_PieceError := ⟨xe_PieceError, PySem.W.mg_of X G xa_PieceError, xk_PieceError, xs_PieceError, xt_PieceError⟩
  obtain ⟨_, _, _, _, _, _, _, _, _, _, _, _, it_ParseError⟩ := PF2.init_ParseError
  have Y_ParseError : GErr prog K mg "ParseError" "index" A_ParseError := gerr_of PEI.tb_value it_ParseError pfile ptop (by first | rfl | decide +kernel) yl_ParseError ye_ParseError yf_ParseError yb_ParseError yk_ParseError yc_ParseError yo_ParseError ycs yt_ParseError yn_ParseError yv_ParseError yx_ParseError yy_ParseError yz_ParseError yi_ParseError yw_ParseError (PySem.W.mg_of X G xa_ParseError) (PySem.W.mg_none_of X G z_super) yq_ParseError
  have GCX_read : GCmX prog w K mg base CN "read" 9 (spOfF K mg flE (aCons (rCls CN) (aCons (rUn (rDt K) (rUn (rNum CN) rD0)) aNil)) (rNum CN) m_Number_read_X) := ⟨.type "type", _, _, ⟨rdCN, gaCN⟩, ⟨acCN_read, ⟨_, rcCN_read⟩, icCN_read⟩, fnR_ofA (PF2.ok_Number_read_X FcCN_read fr TN iN_str G_number_in S_str Y_ParseError) BcCN_read⟩
  have Ft15 := fun_mk (st := topS 29) lt15 ct15 kt15
  have Bt15 := Ft15.binds (ps := ["_law_one", "_law_other"]) fun _ _ _ _ _ _ us hl => match us, hl with | [_, _], _ => rfl
  have G__law_common : GD prog w K mg base "_law_common" 2 (spOf (aCons rInt (aCons rInt aNil)) rInt m__law_common) := ⟨_, _, _, PySem.W.mg_of X G at15, kt15, Bt15, PF2.ok__law_common Ft15 fr⟩
  have Ft16 := fun_mk (st := topS 30) lt16 ct16 kt16
  have Bt16 := Ft16.binds (ps := ["_law_top", "_law_part", "_law_root", "_law_bottom"]) fun _ _ _ _ _ _ us hl => match us, hl with | [_, _, _, _], _ => rfl
  have G__law_least : GD prog w K mg base "_law_least" 3 (spOf (aCons rInt (aCons rInt (aCons rInt (aCons rInt aNil)))) (rTx K (aCons rInt (aCons rInt (aCons rInt (aCons rInt aNil))))) m__law_least) := ⟨_, _, _, PySem.W.mg_of X G at16, kt16, Bt16, PF2.ok__law_least Ft16 fr G__law_common⟩
  have Ft17 := fun_mk (st := topS 31) lt17 ct17 kt17
  have Bt17 := Ft17.binds (ps := ["_law_dice_here", "_law_root"]) fun _ _ _ _ _ _ us hl => match us, hl with | [_, _], _ => rfl
  have G__law_parts_drawn : GD prog w K mg base "_law_parts_drawn" 4 (spOfD (aCons rInt aNil) (rTx K (aCons rInt (aCons rInt (aCons rInt (aCons rInt aNil))))) m__law_parts_drawn) := ⟨_, _, _, PySem.W.mg_of X G at17, kt17, Bt17, PF2.ok__law_parts_drawn Ft17 G__law_pick G__law_roll⟩
  have Ft18 := fun_mk (st := topS 32) lt18 ct18 kt18
  have Bt18 := Ft18.binds (ps := ["_law_parts"]) fun _ _ _ _ _ _ us hl => match us, hl with | [_], _ => rfl
  have G__law_made : GD prog w K mg base "_law_made" 8 (spOf (aCons (rTx K (aCons rInt (aCons rInt (aCons rInt (aCons rInt aNil))))) aNil) (rNum CN) m__law_made) := ⟨_, _, _, PySem.W.mg_of X G at18, kt18, Bt18, PF2.ok__law_made Ft18 G_NumberK⟩
  have Ft19 := fun_mk (st := topS 33) lt19 ct19 kt19
  have Bt19 := Ft19.binds (ps := ["_law_number"]) fun _ _ _ _ _ _ us hl => match us, hl with | [_], _ => rfl
  have G__law_form : GD prog w K mg base "_law_form" 4 (spOf (aCons (rNum CN) aNil) (rTx K (aCons rInt (aCons rInt (aCons rInt (aCons rInt aNil))))) m__law_form) := ⟨_, _, _, PySem.W.mg_of X G at19, kt19, Bt19, PF2.ok__law_form Ft19 TN P_top P_part P_root P_bottom⟩
  have Ft20 := fun_mk (st := topS 34) lt20 ct20 kt20
  have Bt20 := Ft20.binds (ps := ["_law_form_here"]) fun _ _ _ _ _ _ us hl => match us, hl with | [_], _ => rfl
  have G__law_text : GD prog w K mg base "_law_text" 2 (spOf (aCons (rTx K (aCons rInt (aCons rInt (aCons rInt (aCons rInt aNil))))) aNil) rStr m__law_text) := ⟨_, _, _, PySem.W.mg_of X G at20, kt20, Bt20, PF2.ok__law_text Ft20 fr⟩
  have Ft21 := fun_mk (st := topS 35) lt21 ct21 kt21
  have Bt21 := Ft21.binds (ps := ["_law_text_here"]) fun _ _ _ _ _ _ us hl => match us, hl with | [_], _ => rfl
  have G__law_integer : GD prog w K mg base "_law_integer" 2 (spOf (aCons rStr aNil) (rOpt rInt) m__law_integer) := ⟨_, _, _, PySem.W.mg_of X G at21, kt21, Bt21, PF2.ok__law_integer Ft21 yd fr⟩
  have Ft22 := fun_mk (st := topS 36) lt22 ct22 kt22
  have Bt22 := Ft22.binds (ps := ["_law_root"]) fun _ _ _ _ _ _ us hl => match us, hl with | [_], _ => rfl
  have G__law_free_of_squares : GD prog w K mg base "_law_free_of_squares" 2 (spOf (aCons rInt aNil) rBl m__law_free_of_squares) := ⟨_, _, _, PySem.W.mg_of X G at22, kt22, Bt22, PF2.ok__law_free_of_squares Ft22 fr⟩
  have Ft23 := fun_mk (st := topS 37) lt23 ct23 kt23
  have Bt23 := Ft23.binds (ps := ["_law_body"]) fun _ _ _ _ _ _ us hl => match us, hl with | [_], _ => rfl
  have G__law_sides : GD prog w K mg base "_law_sides" 2 (spOf (aCons rStr aNil) (rTx K (aCons rStr (aCons rStr (aCons rStr aNil)))) m__law_sides) := ⟨_, _, _, PySem.W.mg_of X G at23, kt23, Bt23, PF2.ok__law_sides Ft23 fr⟩
  have Ft24 := fun_mk (st := topS 38) lt24 ct24 kt24
  have Bt24 := Ft24.binds (ps := ["_law_text_here"]) fun _ _ _ _ _ _ us hl => match us, hl with | [_], _ => rfl
  have G__law_told : GD prog w K mg base "_law_told" 4 (spOf (aCons rStr aNil) (rDt K) m__law_told) := ⟨_, _, _, PySem.W.mg_of X G at24, kt24, Bt24, PF2.ok__law_told Ft24 fr G__law_integer G__law_sides G__law_free_of_squares G__law_least G__law_text⟩
  have Ft25 := fun_mk (st := topS 39) lt25 ct25 kt25
  have Bt25 := Ft25.binds (ps := ["_law_dice_here", "_law_text_here"]) fun _ _ _ _ _ _ us hl => match us, hl with | [_, _], _ => rfl
  have G__law_bent : GD prog w K mg base "_law_bent" 3 (spOfD (aCons rStr aNil) rStr m__law_bent) := ⟨_, _, _, PySem.W.mg_of X G at25, kt25, Bt25, PF2.ok__law_bent Ft25 fr G__law_roll⟩
  have Ft26 := fun_mk (st := topS 40) lt26 ct26 kt26
  have Bt26 := Ft26.binds (ps := ["_law_text_here"]) fun _ _ _ _ _ _ us hl => match us, hl with | [_], _ => rfl
  have G__law_read : GG prog w K mg base "_law_read" 10 1 (spOf (aCons (rUn (rDt K) (rUn (rNum CN) rD0)) aNil) (rDt K) m__law_read) := ⟨_, PySem.W.mg_of X G at26, kt26, PF2.ok__law_read Ft26 Bt26 TN GCX_read G__law_form Y_ParseError fr E_ParseError_ParseError⟩
  have Ft27 := fun_mk (st := topS 41) lt27 ct27 kt27
  have Bt27 := Ft27.binds (ps := ["_law_dice_here"]) fun _ _ _ _ _ _ us hl => match us, hl with | [_], _ => rfl
  have G__law_right : GG prog w K mg base "_law_right" 11 1 (spOfD aNil rBl m__law_right) := ⟨_, PySem.W.mg_of X G at27, kt27, PF2.ok__law_right Ft27 Bt27 G__law_pick G__law_parts_drawn G__law_least G__law_text G__law_made TN S_str G__law_read G__law_told fr G__law_bent G_Number⟩
  have Ft28 := fun_mk (st := topS 42) lt28 ct28 kt28
  have Bt28 := Ft28.binds (ps := ["_law_script"]) fun _ _ _ _ _ _ us hl => match us, hl with | [_], _ => rfl
  exact PF2.ok_law Ft28 Bt28 G__law_dice G__law_right fr TN C_Number_read S_str G__law_read yd
end PF2
namespace PF
open PySem PySem.Spec PyProof.Rows L2 SlX
end PF
set_option maxHeartbeats 0
namespace PH
open PF PF2 PySem PySem.Spec PyProof.Rows L2 SlX
theorem all5 {prog : Program} {w : World} {K : PySem.W.Frag} {h : Heap} {mg : Str → Option Value} {fa : Addr} (X : K.In h) (G : h.Ns mainGlobals mg) (hfa : mg "law" = some (.ref fa)) (pfile : prog.main.file = "/claim/cut.py") (ptop : (prog.main.scope.names.lookup ("super" : Str)).isSome = false) (hb : bx K = true) (hv : fx K = vx)
    : ∀ base : Heap, K.In base → base.Ns mainGlobals mg → FnG prog w K mg base 12 fa 1 (spLaw K) := by
  simp only [bx, Bool.and_eq_true] at hb
  obtain ⟨hp0, hp1, hp2, hp3⟩ := hb
  simp only [bp0, Bool.and_eq_true] at hp0
  obtain ⟨hb0, hb4, hb8, hb12, _⟩ := hp0
  simp only [bp1, Bool.and_eq_true] at hp1
  obtain ⟨hb1, hb5, hb9, hb13, _⟩ := hp1
  simp only [bp2, Bool.and_eq_true] at hp2
  obtain ⟨hb2, hb6, hb10, _⟩ := hp2
  simp only [bp3, Bool.and_eq_true] at hp3
  obtain ⟨hb3, hb7, hb11, _⟩ := hp3
  simp only [bx0, Bool.and_eq_true, decide_eq_true_eq] at hb0
  obtain ⟨z_abs, z_all, z_bool, z_int, z_isinstance, z_len, z_max, z_min, z_range, z_repr, z_str, cn, ct, aN, aF, pgN, icN, poN, saN, caN, _⟩ := hb0
  simp only [bx1, Bool.and_eq_true, decide_eq_true_eq] at hb1
  obtain ⟨cmN, mkN, kcN, pgF, icF, poF, saF, caF, cmF, mkF, kcF, saNtop, sgNtop, stNtop, syNtop, sxNtop, saNpart, sgNpart, stNpart, syNpart, _⟩ := hb1
  simp only [bx2, Bool.and_eq_true, decide_eq_true_eq] at hb2
  obtain ⟨sxNpart, saNroot, sgNroot, stNroot, syNroot, sxNroot, saNbottom, sgNbottom, stNbottom, syNbottom, sxNbottom, saFtop, sgFtop, stFtop, syFtop, sxFtop, saFpart, sgFpart, stFpart, syFpart, _⟩ := hb2
  simp only [bx3, Bool.and_eq_true, decide_eq_true_eq] at hb3
  obtain ⟨sxFpart, saFroot, sgFroot, stFroot, syFroot, sxFroot, saFbottom, sgFbottom, stFbottom, syFbottom, sxFbottom, tyN, tyF, suF, suI, suN, at0, ct0, kt0, at1, _⟩ := hb3
  simp only [bx4, Bool.and_eq_true, decide_eq_true_eq] at hb4
  obtain ⟨ct1, kt1, at2, ct2, kt2, at3, ct3, kt3, at4, ct4, kt4, yd, afi, cfi, kfi, ifi, at5, ct5, kt5, ani, _⟩ := hb4
  simp only [bx5, Bool.and_eq_true, decide_eq_true_eq] at hb5
  obtain ⟨Dlni, cni, kni, ini, lT, nDr, nDb, at6, ct6, kt6, at7, ct7, kt7, at8, ct8, kt8, aadd, cadd, kadd, iadd, _⟩ := hb5
  simp only [bx6, Bool.and_eq_true, decide_eq_true_eq] at hb6
  obtain ⟨rcadd, foadd, roadd, sfN, asub, csub, ksub, isub, rcsub, fosub, rosub, amul, cmul, kmul, imul, rcmul, fomul, romul, ap_top, sp_top, _⟩ := hb6
  simp only [bx7, Bool.and_eq_true, decide_eq_true_eq] at hb7
  obtain ⟨tp_top, rp_top, cp_top, kp_top, ap_part, sp_part, tp_part, rp_part, cp_part, kp_part, ap_root, sp_root, tp_root, rp_root, cp_root, kp_root, ap_bottom, sp_bottom, tp_bottom, rp_bottom, _⟩ := hb7
  simp only [bx8, Bool.and_eq_true, decide_eq_true_eq] at hb8
  obtain ⟨cp_bottom, kp_bottom, aeq, ceq, keq, ieq, ne, astr, cstr, kstr, istr, at9, ct9, kt9, at10, ct10, kt10, at11, ct11, kt11, _⟩ := hb8
  simp only [bx9, Bool.and_eq_true, decide_eq_true_eq] at hb9
  obtain ⟨at12, ct12, kt12, at13, ct13, kt13, at14, ct14, kt14, rdCN, gaCN, acCN_read, rcCN_read, ccCN_read, kcCN_read, icCN_read, iN_str, xa_PieceError, xe_PieceError, xk_PieceError, _⟩ := hb9
  simp only [bx10, Bool.and_eq_true, decide_eq_true_eq] at hb10
  obtain ⟨xs_PieceError, xt_PieceError, ycs, z_super, xa_ParseError, yi_ParseError, ye_ParseError, yl_ParseError, yb_ParseError, yk_ParseError, yc_ParseError, yo_ParseError, yt_ParseError, yn_ParseError, yv_ParseError, yx_ParseError, yy_ParseError, yz_ParseError, yw_ParseError, yq_ParseError, _⟩ := hb10
  simp only [bx11, Bool.and_eq_true, decide_eq_true_eq] at hb11
  obtain ⟨at15, ct15, kt15, at16, ct16, kt16, at17, ct17, kt17, at18, ct18, kt18, at19, ct19, kt19, at20, ct20, kt20, at21, ct21, _⟩ := hb11
  simp only [bx12, Bool.and_eq_true, decide_eq_true_eq] at hb12
  obtain ⟨kt21, at22, ct22, kt22, at23, ct23, kt23, at24, ct24, kt24, at25, ct25, kt25, at26, ct26, kt26, E_ParseError_ParseError, at27, ct27, kt27, _⟩ := hb12
  simp only [bx13, Bool.and_eq_true, decide_eq_true_eq] at hb13
  obtain ⟨at28, ct28, kt28, gFIGURES, gLEAST_ROOT, gMAX_ROOT, gMOST_FIGURES, _⟩ := hb13
  simp only [fx, vx, fx0, vx0, fx1, vx1, fx2, vx2, List.cons_append, List.nil_append, List.append_nil, List.cons.injEq, and_true] at hv
  obtain ⟨lt0, lt1, lt2, lt3, lt4, lfi, lt5, lni, lt6, lt7, lt8, ladd, lsub, lmul, lp_top, lp_part, lp_root, lp_bottom, leq, lstr, lt9, lt10, lt11, lt12, lt13, lt14, lcCN_read, yf_ParseError, lt15, lt16, lt17, lt18, lt19, lt20, lt21, lt22, lt23, lt24, lt25, lt26, lt27, lt28⟩ := hv
  obtain ⟨_, _, _, _, _, _, _, _, lt0⟩ := PHD.fw_ok lt0
  obtain ⟨_, _, _, _, _, _, _, _, lt1⟩ := PHD.fw_ok lt1
  obtain ⟨_, _, _, _, _, _, _, _, lt2⟩ := PHD.fw_ok lt2
  obtain ⟨_, _, _, _, _, _, _, _, lt3⟩ := PHD.fw_ok lt3
  obtain ⟨_, _, _, _, _, _, _, _, lt4⟩ := PHD.fw_ok lt4
  obtain ⟨_, _, _, _, _, _, _, _, lfi⟩ := PHD.fw_ok lfi
  obtain ⟨_, _, _, _, _, _, _, _, lt5⟩ := PHD.fw_ok lt5
  obtain ⟨_, _, _, _, _, _, _, lni⟩ := PHD.fwN_ok lni Dlni
  obtain ⟨_, _, _, _, _, lT⟩ := PHD.seq_ok lT
  obtain ⟨_, nDr⟩ := PHD.intN_ok nDr
  obtain ⟨_, nDb⟩ := PHD.intN_ok nDb
  obtain ⟨_, _, _, _, _, _, _, _, lt6⟩ := PHD.fw_ok lt6
  obtain ⟨_, _, _, _, _, _, _, _, lt7⟩ := PHD.fw_ok lt7
  obtain ⟨_, _, _, _, _, _, _, _, lt8⟩ := PHD.fw_ok lt8
  obtain ⟨_, _, _, _, _, _, _, _, ladd⟩ := PHD.fw_ok ladd
  obtain ⟨_, foadd⟩ := PHD.some_ok foadd
  obtain ⟨_, roadd⟩ := PHD.some_ok roadd
  obtain ⟨_, _, _, _, _, _, _, _, lsub⟩ := PHD.fw_ok lsub
  obtain ⟨_, fosub⟩ := PHD.some_ok fosub
  obtain ⟨_, rosub⟩ := PHD.some_ok rosub
  obtain ⟨_, _, _, _, _, _, _, _, lmul⟩ := PHD.fw_ok lmul
  obtain ⟨_, fomul⟩ := PHD.some_ok fomul
  obtain ⟨_, romul⟩ := PHD.some_ok romul
  obtain ⟨_, rp_top⟩ := PHD.rec_ok rp_top
  obtain ⟨_, _, _, _, _, _, _, _, lp_top⟩ := PHD.fw_ok lp_top
  obtain ⟨_, rp_part⟩ := PHD.rec_ok rp_part
  obtain ⟨_, _, _, _, _, _, _, _, lp_part⟩ := PHD.fw_ok lp_part
  obtain ⟨_, rp_root⟩ := PHD.rec_ok rp_root
  obtain ⟨_, _, _, _, _, _, _, _, lp_root⟩ := PHD.fw_ok lp_root
  obtain ⟨_, rp_bottom⟩ := PHD.rec_ok rp_bottom
  obtain ⟨_, _, _, _, _, _, _, _, lp_bottom⟩ := PHD.fw_ok lp_bottom
  obtain ⟨_, _, _, _, _, _, _, _, leq⟩ := PHD.fw_ok leq
  obtain ⟨_, _, _, _, _, _, _, _, lstr⟩ := PHD.fw_ok lstr
  obtain ⟨_, _, _, _, _, _, _, _, lt9⟩ := PHD.fw_ok lt9
  obtain ⟨_, _, _, _, _, _, _, _, lt10⟩ := PHD.fw_ok lt10
  obtain ⟨_, _, _, _, _, _, _, _, lt11⟩ := PHD.fw_ok lt11
  obtain ⟨_, _, _, _, _, _, _, _, lt12⟩ := PHD.fw_ok lt12
  obtain ⟨_, _, _, _, _, _, _, _, lt13⟩ := PHD.fw_ok lt13
  obtain ⟨_, _, _, _, _, _, _, _, lt14⟩ := PHD.fw_ok lt14
  have acCN_read := PHD.cm_ok acCN_read
  obtain ⟨_, rcCN_read⟩ := PHD.rec_ok rcCN_read
  obtain ⟨_, _, _, _, _, _, _, _, lcCN_read⟩ := PHD.fw_ok lcCN_read
  obtain ⟨_, _, _, _, _, _, _, _, lt15⟩ := PHD.fw_ok lt15
  obtain ⟨_, _, _, _, _, _, _, _, lt16⟩ := PHD.fw_ok lt16
  obtain ⟨_, _, _, _, _, _, _, _, lt17⟩ := PHD.fw_ok lt17
  obtain ⟨_, _, _, _, _, _, _, _, lt18⟩ := PHD.fw_ok lt18
  obtain ⟨_, _, _, _, _, _, _, _, lt19⟩ := PHD.fw_ok lt19
  obtain ⟨_, _, _, _, _, _, _, _, lt20⟩ := PHD.fw_ok lt20
  obtain ⟨_, _, _, _, _, _, _, _, lt21⟩ := PHD.fw_ok lt21
  obtain ⟨_, _, _, _, _, _, _, _, lt22⟩ := PHD.fw_ok lt22
  obtain ⟨_, _, _, _, _, _, _, _, lt23⟩ := PHD.fw_ok lt23
  obtain ⟨_, _, _, _, _, _, _, _, lt24⟩ := PHD.fw_ok lt24
  obtain ⟨_, _, _, _, _, _, _, _, lt25⟩ := PHD.fw_ok lt25
  obtain ⟨_, _, _, _, _, _, _, _, lt26⟩ := PHD.fw_ok lt26
  obtain ⟨_, _, _, _, _, _, _, _, lt27⟩ := PHD.fw_ok lt27
  obtain ⟨_, _, _, _, _, _, _, _, lt28⟩ := PHD.fw_ok lt28
  obtain ⟨_, gFIGURES⟩ := PHD.str_ok gFIGURES
  obtain ⟨_, gLEAST_ROOT⟩ := PHD.int_ok gLEAST_ROOT
  obtain ⟨_, gMAX_ROOT⟩ := PHD.int_ok gMAX_ROOT
  obtain ⟨_, gMOST_FIGURES⟩ := PHD.int_ok gMOST_FIGURES
  exact PF2.all_mk X G hfa z_abs z_all z_bool z_int z_isinstance z_len z_max z_min z_range z_repr z_str cn ct aN aF pgN icN poN saN caN cmN mkN kcN pgF icF poF saF caF cmF mkF kcF saNtop sgNtop stNtop syNtop sxNtop saNpart sgNpart stNpart syNpart sxNpart saNroot sgNroot stNroot syNroot sxNroot saNbottom sgNbottom stNbottom syNbottom sxNbottom saFtop sgFtop stFtop syFtop sxFtop saFpart sgFpart stFpart syFpart sxFpart saFroot sgFroot stFroot syFroot sxFroot saFbottom sgFbottom stFbottom syFbottom sxFbottom tyN tyF suF suI suN at0 lt0 ct0 kt0 at1 lt1 ct1 kt1 at2 lt2 ct2 kt2 at3 lt3 ct3 kt3 at4 lt4 ct4 kt4 yd afi lfi cfi kfi ifi at5 lt5 ct5 kt5 ani lni cni kni ini lT nDr nDb at6 lt6 ct6 kt6 at7 lt7 ct7 kt7 at8 lt8 ct8 kt8 aadd ladd cadd kadd iadd rcadd foadd roadd sfN asub lsub csub ksub isub rcsub fosub rosub amul lmul cmul kmul imul rcmul fomul romul ap_top sp_top tp_top rp_top lp_top cp_top kp_top ap_part sp_part tp_part rp_part lp_part cp_part kp_part ap_root sp_root tp_root rp_root lp_root cp_root kp_root ap_bottom sp_bottom tp_bottom rp_bottom lp_bottom cp_bottom kp_bottom aeq leq ceq keq ieq ne astr lstr cstr kstr istr at9 lt9 ct9 kt9 at10 lt10 ct10 kt10 at11 lt11 ct11 kt11 at12 lt12 ct12 kt12 at13 lt13 ct13 kt13 at14 lt14 ct14 kt14 rdCN gaCN acCN_read rcCN_read lcCN_read ccCN_read kcCN_read icCN_read iN_str xa_PieceError xe_PieceError xk_PieceError xs_PieceError xt_PieceError pfile ptop ycs z_super xa_ParseError yi_ParseError ye_ParseError yl_ParseError yf_ParseError yb_ParseError yk_ParseError yc_ParseError yo_ParseError yt_ParseError yn_ParseError yv_ParseError yx_ParseError yy_ParseError yz_ParseError yw_ParseError yq_ParseError at15 lt15 ct15 kt15 at16 lt16 ct16 kt16 at17 lt17 ct17 kt17 at18 lt18 ct18 kt18 at19 lt19 ct19 kt19 at20 lt20 ct20 kt20 at21 lt21 ct21 kt21 at22 lt22 ct22 kt22 at23 lt23 ct23 kt23 at24 lt24 ct24 kt24 at25 lt25 ct25 kt25 at26 lt26 ct26 kt26 E_ParseError_ParseError at27 lt27 ct27 kt27 at28 lt28 ct28 kt28 gFIGURES gLEAST_ROOT gMAX_ROOT gMOST_FIGURES
end PH
open PySem PySem.W PySem.Calls PyProof.Rows in
set_option maxRecDepth 100000 in
set_option maxHeartbeats 0 in
theorem PySem.Challenge.cw_pieceround_k04_whole_texts_of_numbers_holds : PySem.Challenge.rw_pieceround_k04_whole_texts_of_numbers.Holds := by
  w_on; o_law
  refine HandSHeadRun.head_any (r := OpenLaw.row PySem.Challenge.rw_pieceround_k04_whole_texts_of_numbers) (q := PH.vw) (H := PH.hk) (ob := PHD.obN PH.bx PH.fx) (M := 20000) (loose := PH.nms) (d := HandSHeadRun.topDef (OpenLaw.row PySem.Challenge.rw_pieceround_k04_whole_texts_of_numbers).prog 42) (kwd := []) PHD.obN_eq
    (by kernel_rfl) (fun s => by kernel_rfl) (fun w os => PHD.map3 (PH.r1 w os) (PH.r2 w os) (PH.r34 w os)) (by kernel_rfl) (by kernel_rfl) (by kernel_rfl) (by rfl) (by first | assumption | decide +kernel) (by decide +kernel) ⟨rfl, rfl, rfl, rfl, rfl, by decide +kernel⟩ ?hw ?hc
  case hw => w_witness2
  case hc =>
    refine PF.walk_g (l := PySem.Challenge.rw_pieceround_k04_whole_texts_of_numbers) (n := 63) (k := 12) rfl (by decide) (by kernel_rfl) ⟨rfl, by decide, by decide⟩ ?F
    intro w mg fa h Y G hmg0
    obtain ⟨K, KX, hb, hv⟩ := Y
    have hmg : mg ("law" : PySem.Str) = some (.ref fa) := by
      have e : (HandSHeadRun.topDef (OpenLaw.row PySem.Challenge.rw_pieceround_k04_whole_texts_of_numbers).prog 42).name = ("law" : PySem.Str) := by kernel_rfl
      rw [← e]
      exact hmg0
    exact ⟨K, PF2.spLaw K, KX, fun G a ns hl _ hS => ⟨a, ns, rfl, hS, Nat.le_trans hl (by decide), fun H' => rfl⟩, PH.all5 KX G hmg (by kernel_rfl) (by kernel_rfl) hb hv⟩
