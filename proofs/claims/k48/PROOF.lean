import PyProof.Rows.All
import Wide.All
import OpenK.AllK
import Wide.FinOn
import PyProof.InstSpecial
import KE.KOpsOwn
import KE.KExcInit
import HandS.ForExc
import HandS.Comp
import HandS.Wide
import HandS.WideBits
import HandS.Slots
import HandS.SlotsOwn
import HandS.MakeKwOnly
import HandS.MakeKw
import HandS.Defaults
import HandS.More
import HandS.IsInst
import HandS.Flow
import HandS.Conv
import HandS.Codes
import PyProof.ReprRoads
import HandS.Zip
import HandS.NoneIn
import HandS.TupAny
import HandS.TupMul
import HandS.FStr
import HandS.RaiseMore
import HandS.Dict
import HandS.DictComp
import HandS.Iter
import HandS.Text
import KE.GoesEnum
import HandS.Strs
import HandS.SetFor
import HandS.Deep
import HandS.Style
import HandS.WordsDict
import HandS.IterVal
import HandS.ClsMeth
import HandS.OwnEq
import KE.KDictZip
import HandS.OwnIter
import HandS.IterNext
import HandS.GenBody
import HandS.GenYield
import HandS.GenCall
import HandS.GenList
import PyProof.GenComp
import PyProof.DictUpdate
import PyProof.DictTable
import PyProof.NeKinds
import HandS.Star
import PySem.Challenge.RW_pieceround_k48_moves_of_places_beside_ro
set_option Elab.async false
set_option linter.all false
set_option maxRecDepth 100000
set_option maxHeartbeats 4000000
namespace PF
open PySem PySem.Spec PyProof.Rows L2 SlX

/-! ### own operators of slotted instances -/
section
variable {X : Cx} {CX : CXT} {C g : Addr} {n : Nat} {sp : Sp} {E : XK}
/-- // by any divisor other than 0 of fewer than 9000 bits -/
def CDvz (_ j : Int) : Prop := j ≠ 0 ∧ j.natAbs.log2 < 9000
theorem op_fdivZ : OpR X (binaryOp .FloorDiv) (rI CDvz fun i j => .int (i.fdiv j)) :=
  opI fun _ _ _ _ _ _ _ c k => floordiv_int c.1 k (.inl (PyProof.noPylong_of_log2 c.2))

/-- x op y, both instances of the class at C -/
def rBinS (C : Addr) (sp : Sp) (E : XK) : R2 := fun x y H Q => ∃ a dx vs b dy ws, x = .ref a ∧ y = .ref b ∧ Slt H a C dx vs ∧ Slt H b C dy ws ∧ sp [x, y] H Q E
/-- x op i, x an instance, i an integer -/
def rBinI (C : Addr) (sp : Sp) (E : XK) : R2 := fun x y H Q => ∃ a dx vs i, x = .ref a ∧ y = .int i ∧ Slt H a C dx vs ∧ sp [x, y] H Q E
theorem op_binS {op : Operator} (h1 : PySem.W.selfFirst X.K C = true) (h2 : PySem.W.findIn X.K (.ref C) (PySem.dunder op.info.2) = some (some (.ref g))) (h3 : PySem.W.isFn X.K (.ref g) = true)
    (F : FnR X.prog X.w X.K X.mg X.base CX n g sp) (hr : Room n X.A) (hx : Passes CX X E) : OpR X (binaryOp op) (rBinS C sp E) := by
  intro pins st sg HH x y v u Qk J rx ry k
  obtain ⟨a, dx, vs, b, dy, ws, rfl, rfl, sa, sb, k⟩ := k
  cases (show v = Value.ref a from rx)
  cases (show u = Value.ref b from ry)
  obtain ⟨_, _, _, ja, _⟩ := slt_inst J sa
  obtain ⟨_, _, _, jb, _⟩ := slt_inst J sb
  obtain ⟨_, fr⟩ := J.fr
  refine PySem.W.binop_K fr J.ok.mod.kin ja jb.type h1 h2 h3 ?_
  exact wpAny_mono (wpAny_call (run_fnR (us := [.ref a, .ref b]) (vs := [.ref a, .ref b]) F hr hx J (.cons rfl (.cons rfl .nil)) k))
    (fun _ _ ⟨z, H3, J3, rz, k3⟩ => cmpback rz ⟨z, H3, J3, rz, k3⟩) fun _ _ e => e
theorem op_binI {op : Operator} {fo ro rc : Option Value} (h1 : PySem.W.selfFirst X.K C = true) (h2 : PySem.W.findIn X.K (.ref C) (PySem.dunder op.info.2) = some (some (.ref g))) (h3 : PySem.W.isFn X.K (.ref g) = true)
    (h4 : PySem.W.findIn X.K (.ref C) (PySem.dunderR op.info.2) = some rc) (h5 : rc = none ∨ ∃ g : Addr, rc = some (.ref g)) (h6 : PySem.W.findIn X.K (.type "int") (PySem.dunder op.info.2) = some fo)
    (h7 : PySem.W.findIn X.K (.type "int") (PySem.dunderR op.info.2) = some ro) (h8 : PySem.W.subIn X.K (.type "int") (.ref C) = some false)
    (F : FnR X.prog X.w X.K X.mg X.base CX n g sp) (hr : Room n X.A) (hx : Passes CX X E) : OpR X (binaryOp op) (rBinI C sp E) := by
  intro pins st sg HH x y v u Qk J rx ry k
  obtain ⟨a, dx, vs, i, rfl, rfl, sa, k⟩ := k
  cases (show v = Value.ref a from rx)
  obtain ⟨t, et⟩ := (show ∃ t, u = Value.int i t from ry)
  subst et
  obtain ⟨_, _, _, ja, _⟩ := slt_inst J sa
  obtain ⟨_, fr⟩ := J.fr
  refine PySem.W.ksp_binT fr J.ok.mod.kin ja rfl h1 h2 h3 h4 h5 h6 h7 h8 ?_
  exact wpAny_mono (wpAny_call (run_fnR (us := [.ref a, .int i t]) (vs := [.ref a, .int i]) F hr hx J (.cons rfl (.cons ⟨t, rfl⟩ .nil)) k))
    (fun _ _ ⟨z, H3, J3, rz, k3⟩ => cmpback rz ⟨z, H3, J3, rz, k3⟩) fun _ _ e => e
/-- -x of an instance -/
def rNegS (C : Addr) (sp : Sp) (E : XK) : V → Hp → VK → Prop := fun x H Q => ∃ a dx vs, x = .ref a ∧ Slt H a C dx vs ∧ sp [x] H Q E
theorem un_negS (h2 : PySem.W.findIn X.K (.ref C) "__neg__" = some (some (.ref g))) (h3 : PySem.W.isFn X.K (.ref g) = true)
    (F : FnR X.prog X.w X.K X.mg X.base CX n g sp) (hr : Room n X.A) (hx : Passes CX X E) : UnR X (unaryOp .USub) (rNegS C sp E) := by
  intro pins st sg HH x v Qk J rx k
  obtain ⟨a, dx, vs, rfl, sa, k⟩ := k
  cases (show v = Value.ref a from rx)
  obtain ⟨_, _, _, ja, _⟩ := slt_inst J sa
  obtain ⟨_, fr⟩ := J.fr
  refine PySem.W.ksp_neg fr J.ok.mod.kin ja h2 h3 ?_
  exact wpAny_call (run_fnR (us := [.ref a]) (vs := [.ref a]) F hr hx J (.cons rfl .nil) k)
end

/-! ### x != y by an own == -/
section
variable {prog : Program} {w : World} {A : Around} {E : Value → Shared → Prop} {s : Shared} {K : PySem.W.Frag} {x C f : Addr} {ox : Obj} {od : Option Obj} {b tb : Value}
open PySem.W in
theorem bound_blt {M : Model} {name : Str} {T : String} {id : String} {args : List Value} {Q : Option Value → Shared → Prop} (X : K.In s.heap) (I : InstAt s.heap x ox C od) (h1 : findIn K (.ref C) name = some (some (.builtin id))) (S : Slot T name id)
    (h : wpAny M A (call (.builtin id) (.ref x :: args)) (fun v => Q (some v)) E s) : wpAny M A (callSpecialIfBound? (.ref x) name args) Q E s := by
  have one : wpAny M A (call (.builtin id) ([.ref x] ++ args) >>= fun v => pure (some v)) Q E s := wpAny_bind (wpAny_mono h (fun _ _ k => wpAny_pure k) fun _ _ k => k)
  simp only [callSpecialIfBound?, bindSpecialIfBound?]
  refine wpAny_holding (wpAny_bind (wpAny_bind (wpAny_bind (I.type.here ((looks_findIn X h1).here ?_)))))
  simp only [S.bind]
  refine wpAny_bind (wpAny_askSetting (wpAny_ite ?_))
  split
  · exact wpAny_bind (wpAny_pure (wpAny_pure one))
  · exact wpAny_tryCatch (wpAny_bind (wpAny_pure (wpAny_pure one)))
open PySem.W in
theorem ne_slot {Q : Value → Shared → Prop} (hu : A.units + 1 < cLine) (X : K.In s.heap) (I : InstAt s.heap x ox C od) (hb : Looks (model prog w) s.heap (typeOf b) tb) (hn : notFirst K C tb = true)
    (h1 : findIn K (.ref C) "__ne__" = some (some (.builtin "object.__ne__"))) (h2 : findIn K (.ref C) "__eq__" = some (some (.ref f))) (h3 : isFn K (.ref f) = true) (h4 : mroIn K C (.type "object") = some true)
    (h : wpAny (model prog w) A.in1 (call (.ref f) [.ref x, b]) (fun v s' => ∃ c, v = Value.bool c ∧ Q (.bool (!c)) s') E s) : wpAny (model prog w) A (compareOp .NotEq (.ref x) b) Q E s := by
  have sub : Looks (model prog w) s.heap (isInstance (.ref x) (.type "object")) true := I.type.andThen (looks_mroIn X h4)
  have S := PySem.F.slot_object_ne
  have two : wpAny (model prog w) A (tryCompare (.ref x) "__ne__" b) (fun r s' => ∃ v, r = some v ∧ Q v s') E s := by
    unfold tryCompare
    refine wpAny_bind (bound_blt X I h1 S ?_)
    refine wpAny_call (codeAny_call_builtin S.plain F.cmpEntry_ne (@check_slot (model prog w) _ _ s "object.__ne__" "object" "__ne__" (.ref x) [b] [] _ F.cmpKind_ne F.cmpSplit_ne sub (F.cmpArgs_ne _ _) ?_))
    unfold Builtin.«object.__ne__»
    have main : wpAny (model prog w) A.in1 (callSpecialIfBound? (.ref x) "__eq__" [b]) (fun r s' => ∃ c, r = some (Value.bool c) ∧ Q (.bool (!c)) s') E s :=
      ifBound_K X I h2 h3 (wpAny_mono h (fun v s' hv => by
        obtain ⟨c, rfl, hq⟩ := hv
        exact ⟨c, rfl, hq⟩) fun _ _ e => e)
    repeat (first
      | with_reducible refine wpAny_cRoomFor hu ?_
      | (refine wpAny_bind (m := callSpecialIfBound? (.ref x) (Str.ofString "__eq__") [b]) (wpAny_mono main (fun r s' hr => ?_) fun _ _ e => e)
         obtain ⟨c, rfl, hq⟩ := hr)
      | with_reducible refine wpAny_truthy_bool ?_
      | wp_step)
    all_goals exact ⟨_, rfl, hq⟩
  have fin : ∀ k : Option Value → Sem Value, (∀ v s', Q v s' → wpAny (model prog w) A (k (some v)) Q E s') → wpAny (model prog w) A (tryCompare (.ref x) "__ne__" b >>= k) Q E s := fun k hk =>
    wpAny_bind (wpAny_mono two (fun _ s' ⟨v, e, hq⟩ => e ▸ hk v s' hq) fun _ _ e => e)
  unfold compareOp richCompare; simp only [oneThing_ref]
  refine wpAny_holding (wpAny_bind (wpAny_cRoomFor (by omega) (wpAny_bind (I.type.here (wpAny_bind (hb.here ?_))))))
  split
  · next q =>
    have e : subIn K tb (.ref C) = some false := (Bool.or_eq_true_iff.mp hn).elim (fun z => absurd q (by rw [beq_iff_eq.mp z]; simp)) beq_iff_eq.mp
    refine wpAny_bind (looks_subIn X e |>.here ?_); simp only [Bool.false_eq_true, if_false]
    exact fin _ fun v s' hq => wpAny_pure hq
  · refine wpAny_bind (wpAny_pure ?_); simp only [Bool.false_eq_true, if_false]
    exact fin _ fun v s' hq => wpAny_pure hq
end
end PF

set_option Elab.async false
set_option linter.all false
set_option maxRecDepth 100000
set_option maxHeartbeats 4000000
namespace PF
open PySem PySem.Spec PyProof.Rows L2 SlX

/-! ### defs whose callers are known to stand outside of every repr: A.guards is some [] -/
/-- the def at f keeps its promise wherever no repr is running; it raises nothing -/
def FnG (P : Program) (w : World) (K : PySem.W.Frag) (mg : Str → Option Value) (base : Heap) (k : Nat) (f : Addr) (m : Nat) (sp : Sp) : Prop :=
  ∀ (Ar : Around) (out : List Env) (st : Shared) (G : Hp) (us : List Value) (vs : List V) (R : VK), Ar.guards = some [] → Room k Ar → Env0 P w K mg base Ar out st G → vs.length = m → Vals vs us → sp vs G R E0 →
    codeAny (model P w) Ar (.call (.ref f) ⟨us, []⟩) (CR CX0 out P w G st R E0) st
section
variable {P : Program} {w : World} {K : PySem.W.Frag} {mg : Str → Option Value} {base : Heap} {k : Nat} {f : Addr} {fd : FuncData} {N ps : List Str} {sp : Sp}
theorem FnG.mono {j : Nat} {m : Nat} (F : FnG P w K mg base j f m sp) (h : j ≤ k) : FnG P w K mg base k f m sp := fun Ar out st G us vs R a b => F Ar out st G us vs R a (b.mono h)
theorem FnG.of (F : FnOk P w K mg base CX0 k f fd ps sp) (b : Binds K fd ps []) : FnG P w K mg base k f ps.length sp := fun Ar out st G us vs R _ hr e0 hl r h => by
  have KX : K.In st.heap := e0.mod.kin.keeps fun b o e => (e0.bs b o e).1
  have l2 : us.length = ps.length := r.length.symm.trans hl
  have b2 := b st us KX (by simpa using l2)
  rw [List.append_nil] at b2
  exact F.run Ar out st G ⟨us, []⟩ us vs R E0 hr e0 b2 r h
/-- THE RULE: by the body -/
theorem Fun.okG {x qual : Str} {sm : Stmt} (F : Fun K x qual sm f fd) (S : FnScope N ps (defScope sm)) (b : Binds K fd ps [])
    (body : ∀ (cdv : Value) (Ar : Around) (out : List Env) (st : Shared) (G : Hp) (vs : List V) (R : VK), Ar.guards = some [] → Room k (Ar.deeper (envOfC qual (defScope sm) st.heap.objs.size f cdv)) → sp vs G R E0 →
      ∃ t, PSs (cxOf CX0 P w K mg base N qual (defScope sm) f cdv Ar out st G E0).nox (defBody sm) t ∧ t { nx := fun _ H' => R .non H', rt := R } (start N vs) G) : FnG P w K mg base (k + 1) f ps.length sp := by
  intro Ar out st G us vs R hg hr e0 hl r hsp
  obtain ⟨oc, od, kV, doc, pm, an, cdv, ct, osl, rfl, lk, hcd⟩ := F.ex
  have KX : K.In st.heap := e0.mod.kin.keeps fun b o e => (e0.bs b o e).1
  have l2 : us.length = ps.length := r.length.symm.trans hl
  have b2 := b st us KX (by simpa using l2)
  rw [List.append_nil] at b2
  have kinds : ∀ y ∈ ps.zip us, (defScope sm).names.lookup y.1 = some .local ∨ ((defScope sm).names.lookup y.1 = some .cell ∧ ((cellsFrom (st.heap.objs.size + 1) (defScope sm).names []).lookup y.1).isSome = true) := fun y hy =>
    (S.par y.1 (List.of_mem_zip (a := y.1) (b := y.2) hy).1).imp id fun q => ⟨q, PySem.W.cellsFrom_some _ _ _ (.inl q)⟩
  refine codeAny_call_function hr.depth (KX _ _ lk) rfl S.co S.gen rfl (PySem.W.codeRec_of KX hcd) (b2 _ _ _ _ (wpAny_newFunctionEnv_cells S.kind kinds fun ev hev s1 x => ?_))
  subst hev
  refine ⟨(e0.mod.nolimit.keeps fun b o e => (e0.bs b o e).1).keeps x.toInCall.keep, codeAny_func ?_⟩
  obtain ⟨t, ht, hq⟩ := body cdv Ar out st G vs R hg (hr.deeper _) hsp
  have J : Inv (cxOf CX0 P w K mg base N qual (defScope sm) f cdv Ar out st G E0) [] (start N vs) G s1 := inv_start S hr.hd e0 hl r x
  refine wpAny_mono (ht.nox.run [] s1 (start N vs) G _ J hq) (fun fl s' hs => ?_) fun _ _ z => z
  cases fl with
  | ret u => obtain ⟨v, _, G', J', rv, q⟩ := hs; exact ⟨v, G', J'.os, J'.bare, J'.base, J'.hok, rv, q⟩
  | next => obtain ⟨_, G', J', q⟩ := hs; exact ⟨V.non, G', J'.os, J'.bare, J'.base, J'.hok, rfl, q⟩
  | brk => obtain ⟨_, _, _, q⟩ := hs; exact q.elim
  | cont => obtain ⟨_, _, _, q⟩ := hs; exact q.elim
end
section
variable {X : Cx} {k m : Nat} {f : Addr} {sp : Sp} {x : Str} {p pos : Pos} {e : Expr} {es : List Expr} {t : TA}
theorem run_fnG {pins : List (Addr × Obj)} {st : Shared} {sg : L2.St} {G : Hp} {R : VK} {us : List Value} {vs : List V} (F : FnG X.prog X.w X.K X.mg X.base k f m sp) (hg : X.A.guards = some []) (hr : Room k X.A)
    (J : Inv X pins sg G st) (r : Vals vs us) (hl : vs.length = m) (h : sp vs G R E0) : wpAny (model X.prog X.w) X.A (call (.ref f) us) (EP X pins sg R) X.xe st := by
  refine wpAny_call (codeAny_mono (F X.A X.stack st G us vs R hg hr J.env0 hl r h) fun rr s' hq => ?_)
  cases rr with
  | error e => exact hq.elim
  | ok fl => cases fl with
    | ret u => exact J.after hq
    | next => exact hq.elim
    | brk => exact hq.elim
    | cont => exact hq.elim
/-- f(e, ..) -/
theorem pe_g (F : FnG X.prog X.w X.K X.mg X.base k f m sp) (hg : X.A.guards = some []) (hr : Room k X.A) (gm : X.mg x = some (.ref f)) (kp : PySem.W.keepIn X.K (.ref f) = true) (hm : (e :: es).length = m) (ha : PA X (e :: es) t)
    (ht : ∀ σ H (Q : List V → Hp → Prop), t σ H Q → t σ H fun vs H1 => vs.length = m ∧ Q vs H1) (gl : Gl X x := by rfl) (hdb : (x == ("__debug__" : Str)) = false := by decide)
    (he : starEach (e :: es) X.env = (false, eval e X.env) :: starEach es X.env := by rfl) (hpl : (backTo pos (starEach es X.env)).any (·.1) = false := by rfl) : PE X (.Call (.Name x p) (e :: es) [] pos) (tCall sp [] E0 t) := by
  refine ⟨fun pins st sg G R J h => wpAny_Call_Name_kw (ld_glob J gl gm ?_ hdb)⟩
  refine PySem.W.callWith_K (h₀ := X.base) J.ok.mod.kin kp (thn (ha.run pos pins st sg G _ J (ht _ _ _ h)) fun us s1 ⟨vs, G1, J1, r, hl, q⟩ => ⟨J1.kIn, ?_⟩) he hpl
  rw [List.append_nil] at q
  exact run_fnG F hg hr J1 r hl q
/-! ### repr of data -/
/-- repr(x), x some data -/
def rRepr (K : PySem.W.Frag) : List V → Hp → VK → Prop := fun xs H Q => ∃ v d, xs = [v] ∧ Dp K H v d ∧ d.showable = true ∧ d.hasDict = false ∧ d.shown.length ≤ sizeLine ∧ d.depth ≤ 64 ∧ Q (.str d.shown) H
theorem call_repr (hg : X.A.guards = some []) (hu : X.A.units + 100 < cLine) : CallR X (.builtin "repr") (rRepr X.K) := by
  intro pins st sg G xs us R J r h
  obtain ⟨v, d, rfl, hd, h1, h2, h3, h4, q⟩ := h
  obtain ⟨u, rfl, ru⟩ := r.one
  obtain ⟨as, rd⟩ := Dp.reads J d v u hd ru
  cases rd with
  | none => exact PySem.P.repr_of_none ⟨V.str (PyData.shown .none), G, J.tok _, ⟨_, rfl⟩, q⟩
  | bool b => exact PySem.P.repr_of_bool ⟨V.str (PyData.shown (.bool b)), G, J.tok _, ⟨_, rfl⟩, q⟩
  | int i t => exact PySem.P.repr_of_int (by simpa [PyData.showable] using h1) ⟨V.str (PyData.shown (.int i)), G, J.tok _, ⟨_, rfl⟩, q⟩
  | str x t => exact PySem.P.repr_of_str ⟨V.str (PyData.shown (.str x)), G, J.tok _, ⟨_, rfl⟩, q⟩ (by simpa only [PyData.shown] using h3)
  | list a1 a2 a3 a4 =>
    exact repr_of_reads' (.list a1 a2 a3 a4) h1 (fun z => by rw [h2] at z; cases z) hg (by omega) (fun _ _ e => e) (fun h' u tk hk => ⟨V.str (PyData.shown _), G, J.kept hk, ⟨_, rfl⟩, q⟩) h3
  | tuple a1 a2 a3 a4 =>
    exact repr_of_reads' (.tuple a1 a2 a3 a4) h1 (fun z => by rw [h2] at z; cases z) hg (by omega) (fun _ _ e => e) (fun h' u tk hk => ⟨V.str (PyData.shown _), G, J.kept hk, ⟨_, rfl⟩, q⟩) h3
  | dict _ _ _ _ _ => cases h2
end
/-! ### the law's end, where the law's own def wants to know that no repr is running -/
theorem law_end {P : Program} {w : World} {K : PySem.W.Frag} {mg mb : Str → Option Value} {k : Nat} {fa a : Addr} {sp : Sp} {st : Shared} {vs : List Value} {ns : List Int}
    (KX : K.In st.heap) (g1 : st.heap.Ns mainGlobals mg) (g2 : st.heap.Ns builtinsNs mb) (g3 : ∀ x : Str, x ≠ "__name__" → mb x = bootBuiltins x) (lim : st.heap.NoLimit) (gn : st.gens = #[])
    (ha : st.heap.get? a = some { cls := .type "list", data := .seq vs.toArray }) (hi : IntsAre vs ns) (hl : ns.length ≤ sizeLine) (hr : Room k callerA)
    (F : ∀ base : Heap, K.In base → base.Ns mainGlobals mg → FnG P w K mg base k fa 1 sp)
    (hsp : ∀ G : Hp, Only G → SqL K G a (ns.map V.int) → sp [.ref a] G (fun v _ => v = .bl true) E0) :
    codeAny (model P w) callerA (.call (.ref fa) ⟨[.ref a], []⟩) (fun r s' => r = .ok (.ret (.bool true)) ∧ OldK st.heap s'.heap ∧ s'.os = st.os ∧ AllBare s'.gens) st := by
  have rv := vals_ints hi
  have lv := hi.length
  have core : ∀ G : Hp, Only G → SqL K G a (ns.map V.int) → HOk P w G st.heap → (∀ b u, G b = some u → b = a ∧ K.lookup a = none) →
      codeAny (model P w) callerA (.call (.ref fa) ⟨[.ref a], []⟩) (fun r s' => r = .ok (.ret (.bool true)) ∧ OldK st.heap s'.heap ∧ s'.os = st.os ∧ AllBare s'.gens) st := by
    intro G hO hS ok hA
    have free : ∀ b o, st.heap.get? b = some o → (∀ n, o.data ≠ .seq vs.toArray n) ∨ K.lookup b = some o → G b = none := fun b o e z => by
      cases q : G b with
      | none => rfl
      | some u =>
        obtain ⟨rfl, hk⟩ := hA b u q
        rcases z with z | z
        · rw [ha] at e; cases e; exact absurd rfl (z _)
        · rw [hk] at z; cases z
    have nsK : ∀ {b : Addr} {m : Str → Option Value}, st.heap.Ns b m → (hidT st.heap G).Ns b m := fun ⟨o, es, ep, e, d, r⟩ =>
      ⟨o, es, ep, hidT_get e (free _ o e (.inl fun n z => by rw [d] at z; cases z)), d, r⟩
    have kb : K.In (hidT st.heap G) := fun b o e => hidT_get (KX b o e) (free b o (KX b o e) (.inr e))
    have M : Mod K mg (hidT st.heap G) := ⟨kb, nsK g1, ⟨mb, nsK g2, g3⟩, let ⟨mc, h1, h2⟩ := lim; ⟨mc, nsK h1, h2⟩⟩
    have e0 : Env0 P w K mg (hidT st.heap G) callerA [] st G := ⟨rfl, M, fun b o e => of_hidT e, Nat.le_of_eq (hidT_size _ _), trivial, fun b hb => (nomatch (show b ∈ ([] : List Addr) from hb)), ok, .of_eq gn⟩
    refine codeAny_mono (F _ kb (nsK g1) callerA [] st G [.ref a] [.ref a] _ rfl hr e0 rfl (.cons rfl .nil) (hsp G hO hS)) fun rr s' h => ?_
    cases rr with
    | error e => exact h.elim
    | ok fl => cases fl with
      | next => exact h.elim
      | brk => exact h.elim
      | cont => exact h.elim
      | ret u =>
        obtain ⟨v, G', os, bare, un, ok', r', q⟩ := h
        subst q
        obtain rfl : u = Value.bool true := r'
        refine ⟨rfl, OldK.of_keep fun b o e => ?_, os, bare⟩
        rcases hO b with z | ⟨ob, xs, z⟩
        · exact un.keep b o e z (fun y => (nomatch (show b ∈ ([] : List Addr) from y))) (by simp)
        · obtain ⟨e1, _⟩ := ok b _ z
          obtain ⟨e2, _⟩ := ok' b _ (un.frzs b ob _ z)
          rw [e] at e1; cases e1; exact e2
  cases hk : K.lookup a with
  | some o =>
    have e := KX a o hk
    rw [ha] at e; cases e
    exact core (fun _ => none) (fun _ => .inl rfl) (.inr ⟨_, vs.toArray, _, hk, rfl, rfl, rfl, by rw [List.size_toArray, lv]; exact hl, by simpa using rv⟩) (fun b u z => by have y : (none : Option HO) = some u := z; cases y) fun b u z => by have y : (none : Option HO) = some u := z; cases y
  | none =>
    refine core (fun b => if b = a then some (.frz { cls := .type "list", data := .seq vs.toArray } (.lst (ns.map V.int))) else none) (fun b => ?_) (.inl (.inr ⟨{ cls := .type "list", data := .seq vs.toArray }, if_pos rfl⟩)) (fun b u z => ?_) fun b u z => ?_
    · by_cases y : b = a
      · exact .inr ⟨_, _, if_pos y⟩
      · exact .inl (if_neg y)
    · by_cases y : b = a
      · have z' := (if_pos y).symm.trans z
        cases z'; subst y
        exact ⟨ha, by rw [List.length_map]; exact hl, vs, _, rv, ha⟩
      · have z' := (if_neg y).symm.trans z
        cases z'
    · by_cases y : b = a
      · exact ⟨y, hk⟩
      · have z' := (if_neg y).symm.trans z
        cases z'
theorem walk_g {l : PySem.W.OpenLaw} {n k : Nat} {q : Program} {loose : List Str} {XP : (Str → Option Value) → Heap → Prop} {YP : World → Heap → Prop} {d : DefRec}
    (hn : l.most = some n) (hn2 : n ≤ sizeLine) (hdf : d.params.defaults = []) (hr : Room k callerA)
    (F : ∀ (w : World) (mg : Str → Option Value) (fa : Addr) (h : Heap), YP w h → h.Ns mainGlobals mg → mg d.name = some (.ref fa) →
      ∃ (K : PySem.W.Frag) (sp : Sp), K.In h ∧ (∀ (G : Hp) (a : Addr) (ns : List Int), ns.length ≤ n → Only G → SqL K G a (ns.map V.int) → sp [.ref a] G (fun v _ => v = .bl true) E0) ∧
        ∀ base : Heap, K.In base → base.Ns mainGlobals mg → FnG l.prog w K mg base k fa 1 sp) :
    PySem.W.WalkO q loose XP YP l.row.toRowW d [] (fun f vs => PySem.call f vs) := by
  refine Att.attach_call hn hdf fun w _ s1 mg mb fa _ _ _ _ a vs ns Gr Y _ _ _ hmg hobj hints hlen hg => ?_
  obtain ⟨K, sp, KX, hsp, hF⟩ := F w mg fa _ Y Gr.T.g hmg
  exact law_end KX Gr.T.g Gr.T.b Gr.T.builtins Gr.T.nolimit hg hobj hints (Nat.le_trans hlen hn2) hr hF fun G hO hS => hsp G a ns hlen hO hS
end PF

set_option Elab.async false
set_option linter.all false
set_option maxRecDepth 100000
set_option maxHeartbeats 4000000
namespace PF
open PySem PySem.Spec PyProof.Rows L2 SlX

/-! ### what stands at a global name -/
/-- the module's def x: it keeps sp -/
structure GD (P : Program) (w : World) (K : PySem.W.Frag) (mg : Str → Option Value) (base : Heap) (x : Str) (k : Nat) (sp : Sp) : Prop where
  ex : ∃ f fd ps, mg x = some (.ref f) ∧ PySem.W.keepIn K (.ref f) = true ∧ Binds K fd ps [] ∧ FnOk P w K mg base CX0 k f fd ps sp
structure GG (P : Program) (w : World) (K : PySem.W.Frag) (mg : Str → Option Value) (base : Heap) (x : Str) (k m : Nat) (sp : Sp) : Prop where
  ex : ∃ f, mg x = some (.ref f) ∧ PySem.W.keepIn K (.ref f) = true ∧ FnG P w K mg base k f m sp
theorem GD.gg {P : Program} {w : World} {K : PySem.W.Frag} {mg : Str → Option Value} {base : Heap} {x : Str} {k m : Nat} {sp : Sp} (G : GD P w K mg base x k sp) (h : ∀ vs H Q E, sp vs H Q E → vs.length = m) : GG P w K mg base x k m sp := by
  obtain ⟨f, fd, ps, h1, h2, h3, h4⟩ := G.ex
  refine ⟨f, h1, h2, fun Ar out st G2 us vs R hg hr e0 hl r hs => ?_⟩
  have e : ps.length = m := (h4.len _ _ _ _ hs).symm.trans (h _ _ _ _ hs)
  exact FnG.of h4 h3 Ar out st G2 us vs R hg hr e0 (hl.trans e.symm) r hs
section
variable {X : Cx} {k m : Nat} {sp : Sp} {x : Str} {p pos : Pos} {e : Expr} {es : List Expr} {t : TA}
theorem pe_c1 (G : GD X.prog X.w X.K X.mg X.base x k sp) (hr : Room k X.A) (ha : PA X (e :: es) t) (gl : Gl X x := by rfl) (hdb : (x == ("__debug__" : Str)) = false := by decide)
    (he : starEach (e :: es) X.env = (false, eval e X.env) :: starEach es X.env := by rfl) (hpl : (backTo pos (starEach es X.env)).any (·.1) = false := by rfl) : PE X (.Call (.Name x p) (e :: es) [] pos) (tCall sp [] E0 t) := by
  obtain ⟨f, fd, ps, h1, h2, h3, h4⟩ := G.ex
  exact pe_call h4 hr gl h1 h2 h3 .nil pass0 ha hdb he hpl
theorem pe_c0 (G : GD X.prog X.w X.K X.mg X.base x k sp) (hr : Room k X.A) (gl : Gl X x := by rfl) (hdb : (x == ("__debug__" : Str)) = false := by decide) : PE X (.Call (.Name x p) [] [] pos) (tCall sp [] E0 tNil) := by
  obtain ⟨f, fd, ps, h1, h2, h3, h4⟩ := G.ex
  exact pe_call0 h4 hr gl h1 h2 h3 .nil pass0 hdb
/-- the reading of a call of a def of the kind GG: its number of arguments is told once more -/
def tCallG (sp : Sp) (m : Nat) (t : TA) : TE := fun σ H Q => t σ H fun vs H1 => vs.length = m ∧ sp vs H1 Q E0
theorem pe_gd (G : GG X.prog X.w X.K X.mg X.base x k m sp) (hg : X.A.guards = some []) (hr : Room k X.A) (ha : PA X (e :: es) t) (gl : Gl X x := by rfl) (hdb : (x == ("__debug__" : Str)) = false := by decide)
    (he : starEach (e :: es) X.env = (false, eval e X.env) :: starEach es X.env := by rfl) (hpl : (backTo pos (starEach es X.env)).any (·.1) = false := by rfl) : PE X (.Call (.Name x p) (e :: es) [] pos) (tCallG sp m t) := by
  obtain ⟨f, h1, h2, h4⟩ := G.ex
  refine ⟨fun pins st sg G R J h => wpAny_Call_Name_kw (ld_glob J gl h1 ?_ hdb)⟩
  refine PySem.W.callWith_K (h₀ := X.base) J.ok.mod.kin h2 (thn (ha.run pos pins st sg G _ J h) fun us s1 ⟨vs, G1, J1, r, hl, q⟩ => ⟨J1.kIn, ?_⟩) he hpl
  exact run_fnG h4 hg hr J1 r hl q
end
/-- the class x at C: its __init__ keeps sp; dvs: its defaults -/
structure GM (P : Program) (w : World) (K : PySem.W.Frag) (mg : Str → Option Value) (base : Heap) (x : Str) (C : Addr) (k : Nat) (dvs : List V) (sp : Sp) : Prop where
  ex : ∃ f fd ps ds, mg x = some (.ref C) ∧ Mk K C f ∧ Binds K fd ps ds ∧ Vals dvs ds ∧ FnOk P w K mg base CX0 k f fd ps sp
theorem pe_m1 {X : Cx} {k : Nat} {sp : Sp} {x : Str} {C : Addr} {dvs : List V} {p pos : Pos} {e : Expr} {es : List Expr} {t : TA} (G : GM X.prog X.w X.K X.mg X.base x C k dvs sp) (hr : Room (k + 1) X.A) (ha : PA X (e :: es) t) (gl : Gl X x := by rfl) (hdb : (x == ("__debug__" : Str)) = false := by decide)
    (he : starEach (e :: es) X.env = (false, eval e X.env) :: starEach es X.env := by rfl) (hpl : (backTo pos (starEach es X.env)).any (·.1) = false := by rfl) : PE X (.Call (.Name x p) (e :: es) [] pos) (tMake C sp dvs E0 t) := by
  obtain ⟨f, fd, ps, ds, h1, h2, h3, h4, h5⟩ := G.ex
  exact pe_make h2 h5 hr gl h1 h3 h4 pass0 ha hdb he hpl
theorem fnR_of {P : Program} {w : World} {K : PySem.W.Frag} {mg : Str → Option Value} {base : Heap} {k : Nat} {f : Addr} {fd : FuncData} {ps : List Str} {sp : Sp} (F : FnOk P w K mg base CX0 k f fd ps sp) (b : Binds K fd ps []) : FnR P w K mg base CX0 k f sp := fun Ar out st G us vs R E hr e0 r h => by
  have KX : K.In st.heap := e0.mod.kin.keeps fun b o e => (e0.bs b o e).1
  have l2 : us.length = ps.length := r.length.symm.trans (F.len _ _ _ _ h)
  have b2 := b st us KX (by simpa using l2)
  rw [List.append_nil] at b2
  exact F.run Ar out st G ⟨us, []⟩ us vs R E hr e0 b2 r h
/-- the class's property f: its getter keeps sp -/
structure GP (P : Program) (w : World) (K : PySem.W.Frag) (mg : Str → Option Value) (base : Heap) (C : Addr) (f : Str) (k : Nat) (sp : Sp) : Prop where
  ex : ∃ p g, PySem.W.findIn K (.ref C) f = some (some (.ref p)) ∧ PySem.W.specialIn K (.ref p) "__get__" = some (some (.builtin "property.__get__")) ∧ PySem.W.takesIn K (.ref p) = some true ∧ (∃ rest, PySem.W.recIn K p "property" = some (.ref g :: rest)) ∧ FnR P w K mg base CX0 k g sp
theorem pe_p1 {X : Cx} {C : Addr} {f : Str} {k : Nat} {sp : Sp} {e : Expr} {te : TE} {pos : Pos} (c : SCls X.K C) (G : GP X.prog X.w X.K X.mg X.base C f k sp) (hr : Room (k + 1) X.A) (he : PE X e te) (hb : attributeBase e f X.env (eval e X.env) = eval e X.env := by rfl) : PE X (.Attribute e f pos) (tPropSl C sp E0 te) := by
  obtain ⟨p, g, h1, h2, h3, h4, h5⟩ := G.ex
  exact pe_propSl he c h1 h2 h3 h4 h5 hr (fun _ _ _ _ h => h) hb
/-- the class's method m -/
structure GMe (P : Program) (w : World) (K : PySem.W.Frag) (mg : Str → Option Value) (base : Heap) (C : Addr) (m : Str) (k : Nat) (sp : Sp) : Prop where
  ex : ∃ g, Meth K C m g ∧ FnR P w K mg base CX0 k g sp
theorem pe_me {X : Cx} {C : Addr} {m : Str} {k : Nat} {sp : Sp} {o e : Expr} {es : List Expr} {ta : TE} {t : TA} {pos apos : Pos} {pl : Sem Bool} (c : SCls X.K C) (G : GMe X.prog X.w X.K X.mg X.base C m k sp) (hr : Room k X.A) (he : PE X o ta) (ha : PA X (e :: es) t)
    (hst : starEach (e :: es) X.env = (false, eval e X.env) :: starEach es X.env := by rfl) (hpl : (backTo pos (starEach es X.env)).any (·.1) = false := by rfl)
    (ht : eval (.Call (.Attribute o m apos) (e :: es) [] pos) X.env = (do
      let ov ← eval o X.env
      standAt apos.atName
      let (f, first) ← holding [ov] (getMethod ov m pl)
      callWith pos f first (backTo pos (starEach (e :: es) X.env)) (backToKw pos (keywordEach [] X.env))) := by rfl) : PE X (.Call (.Attribute o m apos) (e :: es) [] pos) (tMethSl C sp E0 ta t) := by
  obtain ⟨g, h1, h2⟩ := G.ex
  exact pe_methSl he c h1 h2 hr pass0 ha hst hpl ht
/-- the class's operator op: the other side an instance too, or an integer -/
structure GB (P : Program) (w : World) (K : PySem.W.Frag) (mg : Str → Option Value) (base : Heap) (C : Addr) (op : Operator) (k : Nat) (sp : Sp) : Prop where
  ex : ∃ g, PySem.W.findIn K (.ref C) (PySem.dunder op.info.2) = some (some (.ref g)) ∧ PySem.W.isFn K (.ref g) = true ∧ FnR P w K mg base CX0 k g sp
  first : PySem.W.selfFirst K C = true
  right : ∃ fo ro rc, PySem.W.findIn K (.ref C) (PySem.dunderR op.info.2) = some rc ∧ (rc = none ∨ ∃ g : Addr, rc = some (.ref g)) ∧ PySem.W.findIn K (.type "int") (PySem.dunder op.info.2) = some fo ∧ PySem.W.findIn K (.type "int") (PySem.dunderR op.info.2) = some ro ∧ PySem.W.subIn K (.type "int") (.ref C) = some false
def rBin (C : Addr) (sp : Sp) : R2 := fun x y H Q => (∃ a dx vs, x = .ref a ∧ Slt H a C dx vs) ∧ ((∃ b dy ws, y = .ref b ∧ Slt H b C dy ws) ∨ ∃ i, y = .int i) ∧ sp [x, y] H Q E0
theorem op_b {X : Cx} {C : Addr} {op : Operator} {k : Nat} {sp : Sp} (G : GB X.prog X.w X.K X.mg X.base C op k sp) (hr : Room k X.A) : OpR X (binaryOp op) (rBin C sp) := by
  obtain ⟨g, h1, h2, h3⟩ := G.ex
  obtain ⟨fo, ro, rc, r1, r2, r3, r4, r5⟩ := G.right
  intro pins st sg HH x y v u Qk J rx ry k
  obtain ⟨⟨a, dx, vs, e, hs⟩, ⟨b, dy, ws, e2, hs2⟩ | ⟨i, e2⟩, k⟩ := k
  · exact op_binS G.first h1 h2 h3 hr pass0 pins st sg HH x y v u Qk J rx ry ⟨a, dx, vs, b, dy, ws, e, e2, hs, hs2, k⟩
  · exact op_binI G.first h1 h2 r1 r2 r3 r4 r5 h3 hr pass0 pins st sg HH x y v u Qk J rx ry ⟨a, dx, vs, i, e, e2, hs, k⟩
structure GN (P : Program) (w : World) (K : PySem.W.Frag) (mg : Str → Option Value) (base : Heap) (C : Addr) (k : Nat) (sp : Sp) : Prop where
  ex : ∃ g, PySem.W.findIn K (.ref C) "__neg__" = some (some (.ref g)) ∧ PySem.W.isFn K (.ref g) = true ∧ FnR P w K mg base CX0 k g sp
theorem un_n {X : Cx} {C : Addr} {k : Nat} {sp : Sp} (G : GN X.prog X.w X.K X.mg X.base C k sp) (hr : Room k X.A) : UnR X (unaryOp .USub) (rNegS C sp E0) := by
  obtain ⟨g, h1, h2, h3⟩ := G.ex
  exact un_negS h1 h2 h3 hr pass0
structure GE (P : Program) (w : World) (K : PySem.W.Frag) (mg : Str → Option Value) (base : Heap) (C : Addr) (k : Nat) (sp : Sp) : Prop where
  ex : ∃ g, PySem.W.findIn K (.ref C) "__eq__" = some (some (.ref g)) ∧ PySem.W.isFn K (.ref g) = true ∧ FnR P w K mg base CX0 k g sp
  ne : PySem.W.findIn K (.ref C) "__ne__" = some (some (.builtin "object.__ne__"))
  ob : PySem.W.mroIn K C (.type "object") = some true
/-! ### slots whose places are known -/
def tSlC (C : Addr) (i : Nat) (ta : TE) : TE := fun σ H Q => ta σ H fun x H1 => ∃ a dx vs v, x = .ref a ∧ Slt H1 a C dx vs ∧ vs[i]? = some (some v) ∧ Q v H1
def sSlC (C : Addr) (i : Nat) (ta tv : TE) : TS := fun D σ H => tv σ H fun y H1 => ta σ H1 fun x H2 => ∃ a dx vs, x = .ref a ∧ Slt H2 a C dx vs ∧ D.nx σ (slH H2 a C dx (putS i y vs))
section
variable {X : Cx} {o e value : Expr} {f : Str} {pos pos' : Pos} {ta tv te : TE} {C p : Addr} {i : Nat}
theorem pe_slC (c : SCls X.K C) (s : ∃ p, Slot1 X.K C f p i) (he : PE X e te) (hb : attributeBase e f X.env (eval e X.env) = eval e X.env := by rfl) : PE X (.Attribute e f pos) (tSlC C i te) := by
  refine ⟨fun pins st sg G R J h => attr_of hb (thn (he.run pins st sg G _ J h) fun u s1 ⟨x, G1, J1, rx, a, dx, vs, v, ex, hs, hv, q⟩ => ?_)⟩
  obtain ⟨p, s⟩ := s
  subst ex
  obtain rfl : u = Value.ref a := rx
  exact getslot_ok J1 hs c s hv fun u' s2 J2 ru => ⟨v, G1, J2, ru, q⟩
theorem ps_slC (c : SCls X.K C) (s : ∃ p, Slot1 X.K C f p i) (ha : PE X o ta) (hv : PE X value tv) (hs : swapsWith value (some (.Attribute o f pos')) pos.line X.env = pure false := by rfl) : PS X (.Assign [.Attribute o f pos'] value pos) (sSlC C i ta tv) := by
  refine ⟨fun pins st sg G D J h => ?_⟩
  refine plainObj_wpAny_Assign_Attribute (thn (hv.run pins st sg G _ J h) fun u s1 ⟨y, G1, J1, ry, q⟩ => thn (ha.run pins s1 sg G1 _ J1 q) fun ov s2 ⟨x, G2, J2, rx, a, dx, vs, ex, hsl, q2⟩ => ?_) hs
  obtain ⟨p, s⟩ := s
  subst ex
  obtain rfl : ov = Value.ref a := rx
  exact setslot_ok J2 hsl c s ry fun s3 J3 => ⟨sg, _, J3, q2⟩
end
theorem hu64 {A : Around} {k : Nat} (hr : Room k A) : A.units + 64 < cLine := by have := hr.un; omega
theorem hu100 {A : Around} {k : Nat} (hr : Room k A) : A.units + 100 < cLine := by have := hr.un; omega

theorem ite_dec {c : Prop} [Decidable c] {A B : Prop} (h : c → A) (k : ¬ c → B) : if decide c = true then A else B := by
  by_cases z : c
  · rw [decide_eq_true z, if_pos rfl]; exact h z
  · rw [decide_eq_false z, if_neg Bool.false_ne_true]; exact k z
theorem ite_ndec {c : Prop} [Decidable c] {A B : Prop} (h : ¬ c → A) (k : c → B) : if (!decide c) = true then A else B := by
  by_cases z : c
  · rw [decide_eq_true z]; exact k z |> fun y => by simpa using y
  · rw [decide_eq_false z]; have y := h z; simpa using y
/-! ### isinstance of any value -/
/-- the type of a value: as of TyX, or an instance with slots -/
inductive TyY (K : PySem.W.Frag) (H : Hp) : V → Value → Prop where
  | x {v : V} {t : Value} (h : TyX K H v t) : TyY K H v t
  | slt {a C dx : Addr} {vs : List (Option V)} (h : Slt H a C dx vs) (c : SCls K C) (i : SIsi K C) : TyY K H (.ref a) (.ref C)
def rIsiU (K : PySem.W.Frag) : List V → Hp → VK → Prop := fun xs H Q => ∃ (x c : V) (t u : Value) (b : Bool), xs = [x, c] ∧ ClsV c u ∧ TyY K H x t ∧ PySem.W.kitOne K t u = some b ∧ Q (.bl b) H
theorem call_isiU {X : Cx} : CallR X (.builtin "isinstance") (rIsiU X.K) := by
  intro pins st sg G xs us R J r h
  obtain ⟨x, c, t, u, b, rfl, hc, ty, hk, q⟩ := h
  cases ty with
  | x ty => exact call_isi pins st sg G _ us R J r ⟨x, c, t, u, b, rfl, hc, ty, hk, q⟩
  | slt hs c' i => exact call_isiSl u pins st sg G _ us R J r ⟨_, _, _, _, c, b, rfl, by cases hc <;> rfl, fun w rw => hc.eq rw, hs, c', i, hk, q⟩
theorem TyY.looks {X : Cx} {pins : List (Addr × Obj)} {sg : L2.St} {G : Hp} {st : Shared} {v : V} {t u : Value} (J : Inv X pins sg G st) (r : RelV v u) (ty : TyY X.K G v t) : PySem.W.Looks (model X.prog X.w) st.heap (typeOf u) t := by
  cases ty with
  | x ty => obtain ⟨Pk, Z, p, _⟩ := kit_of J r ty; exact Z.ty _ _ J.kIn p
  | slt hs c i => cases (show u = Value.ref _ from r); obtain ⟨_, _, _, ja, _⟩ := slt_inst J hs; exact ja.type
/-! ### x == y, x != y, x with slots and an own == -/
section
variable {X : Cx} {CX : CXT} {C g : Addr} {n : Nat} {sp : Sp} {E : XK}
def rCmpS (K : PySem.W.Frag) (C : Addr) (neg : Bool) (sp : Sp) (E : XK) : R2 := fun x y H Q => ∃ a dx vs t, x = .ref a ∧ Slt H a C dx vs ∧ TyY K H y t ∧ PySem.W.notFirst K C t = true ∧ sp [x, y] H (fun z H' => ∃ c, z = .bl c ∧ Q (.bl (if neg then !c else c)) H') E
theorem op_eqS (h2 : PySem.W.findIn X.K (.ref C) "__eq__" = some (some (.ref g))) (h3 : PySem.W.isFn X.K (.ref g) = true) (F : FnR X.prog X.w X.K X.mg X.base CX n g sp) (hr : Room n X.A) (hx : Passes CX X E) : OpR X (compareOp .Eq) (rCmpS X.K C false sp E) := by
  intro pins st sg HH x y v u Qk J rx ry k
  obtain ⟨a, dx, vs, t, rfl, sa, ty, hn, k⟩ := k
  cases (show v = Value.ref a from rx)
  obtain ⟨_, _, _, ja, _⟩ := slt_inst J sa
  obtain ⟨_, fr⟩ := J.fr
  show wpAny _ _ (richCompare .Eq (.ref a) u) _ _ _
  refine PySem.W.cmp_K (op := .Eq) hr.units0 fr J.ok.mod.kin ja (ty.looks J ry) hn h2 h3 ?_
  refine wpAny_mono (wpAny_call (run_fnR (us := [.ref a, u]) (vs := [.ref a, y]) F hr hx J (.cons rfl (.cons ry .nil)) k)) (fun _ _ ⟨z, H3, J3, rz, c, ez, k3⟩ => ?_) fun _ _ e => e
  subst ez
  exact cmpback rz ⟨_, H3, J3, rz, k3⟩
theorem op_neS (h1 : PySem.W.findIn X.K (.ref C) "__ne__" = some (some (.builtin "object.__ne__"))) (h2 : PySem.W.findIn X.K (.ref C) "__eq__" = some (some (.ref g))) (h3 : PySem.W.isFn X.K (.ref g) = true) (h4 : PySem.W.mroIn X.K C (.type "object") = some true)
    (F : FnR X.prog X.w X.K X.mg X.base CX n g sp) (hr : Room (n + 1) X.A) (hx : Passes CX X E) : OpR X (compareOp .NotEq) (rCmpS X.K C true sp E) := by
  intro pins st sg HH x y v u Qk J rx ry k
  obtain ⟨a, dx, vs, t, rfl, sa, ty, hn, k⟩ := k
  cases (show v = Value.ref a from rx)
  obtain ⟨_, _, _, ja, _⟩ := slt_inst J sa
  refine ne_slot (by have := hr.un; omega) J.kIn ja (ty.looks J ry) hn h1 h2 h3 h4 ?_
  refine wpAny_mono (wpAny_call (run_at (A := X.A.in1) (us := [.ref a, u]) (ws := [.ref a, y]) F hr.in1 J.env0.in1 hx J (.cons rfl (.cons ry .nil)) k)) (fun _ _ ⟨z, H3, J3, rz, c, ez, k3⟩ => ?_) fun _ _ e => e
  subst ez
  cases (show _ = Value.bool c from rz)
  exact ⟨c, rfl, .bl (!c), H3, J3, rfl, k3⟩
end
theorem op_eqE {X : Cx} {C : Addr} {k : Nat} {sp : Sp} (G : GE X.prog X.w X.K X.mg X.base C k sp) (hr : Room k X.A) : OpR X (compareOp .Eq) (rCmpS X.K C false sp E0) := by
  obtain ⟨g, h1, h2, h3⟩ := G.ex
  exact op_eqS h1 h2 h3 hr pass0
theorem op_neE {X : Cx} {C : Addr} {k : Nat} {sp : Sp} (G : GE X.prog X.w X.K X.mg X.base C k sp) (hr : Room (k + 1) X.A) : OpR X (compareOp .NotEq) (rCmpS X.K C true sp E0) := by
  obtain ⟨g, h1, h2, h3⟩ := G.ex
  exact op_neS G.ne h1 h2 G.ob h3 hr pass0
end PF

set_option Elab.async false
set_option linter.all false
set_option maxRecDepth 100000
set_option maxHeartbeats 4000000
namespace PF
open PySem PySem.Spec PyProof.Rows L2 SlX
/-! ### plain numbers -/
/-- an integer of fewer than n bits -/
def Bd (n : Nat) (i : Int) : Prop := i.natAbs < 2 ^ n
theorem Bd.mono {n m : Nat} {i : Int} (h : Bd n i) (l : n ≤ m) : Bd m i := Nat.lt_of_lt_of_le h (Nat.pow_le_pow_right (by decide) l)
theorem Bd.mul {n m : Nat} {i j : Int} (h : Bd n i) (k : Bd m j) : Bd (n + m) (i * j) := wide_lt h k
theorem Bd.add {n m : Nat} {i j : Int} (h : Bd n i) (k : Bd n j) (l : n + 1 = m) : Bd m (i + j) := by
  unfold Bd at *; subst l; rw [Nat.pow_succ]; omega
theorem Bd.sub {n m : Nat} {i j : Int} (h : Bd n i) (k : Bd n j) (l : n + 1 = m) : Bd m (i - j) := by
  unfold Bd at *; subst l; rw [Nat.pow_succ]; omega
theorem Bd.neg {n : Nat} {i : Int} (h : Bd n i) : Bd n (-i) := by unfold Bd at *; omega
theorem Bd.le {n : Nat} {i j : Int} (h : Bd n j) (l : i.natAbs ≤ j.natAbs) : Bd n i := Nat.lt_of_le_of_lt l h
theorem Bd.mulx {n m : Nat} {i j : Int} (h : Bd n i) (k : Bd m j) (l : n + m ≤ 134217728) : CMulX i j := mulx_ok h k l
theorem Bd.dvz {n : Nat} {i j : Int} (h : Bd n j) (h0 : j ≠ 0) (l : n ≤ 9000) : CDvz i j := by
  refine ⟨h0, ?_⟩
  have a : j.natAbs ≠ 0 := by omega
  have b := (Nat.log2_lt a).mpr h
  omega
theorem bd_sm {i : Int} {n : Nat} (h : i.natAbs < 1024) (l : 10 ≤ n) : Bd n i := Nat.lt_of_lt_of_le h (Nat.le_trans (show 1024 ≤ 2 ^ 10 by decide) (Nat.pow_le_pow_right (by decide) l))

structure Nm where
  t : Int
  p : Int
  r : Int
  b : Int
deriving DecidableEq
def gcd3 (t p b : Int) : Int := ((Nat.gcd (Nat.gcd t.natAbs p.natAbs) b.natAbs : Nat) : Int)
def share (t p b : Int) : Int := if 0 < b then gcd3 t p b else -gcd3 t p b
def mkNm (t p r b : Int) : Nm := ⟨t.fdiv (share t p b), p.fdiv (share t p b), if p = 0 then 0 else r, b.fdiv (share t p b)⟩
def b2 (c : Bool) : Int := if c then 1 else 0
def sgn (v : Int) : Int := b2 (decide (0 < v)) - b2 (decide (v < 0))
def sgnSum (t p r : Int) : Int := if p = 0 then sgn t else if 0 ≤ sgn t * sgn p then sgn p else sgn t * sgn (t * t - p * p * r)
def isq (n : Nat) : Nat := if h : n = 0 then 0 else if (2 * isq (n / 4) + 1) * (2 * isq (n / 4) + 1) ≤ n then 2 * isq (n / 4) + 1 else 2 * isq (n / 4)
termination_by n
decreasing_by all_goals omega
theorem isq_ok (n : Nat) : isq n * isq n ≤ n ∧ n < (isq n + 1) * (isq n + 1) := by
  induction n using Nat.strongRecOn with
  | ind n ih =>
    rw [isq]
    split
    · next h => subst h; decide
    · next h =>
      obtain ⟨h1, h2⟩ := ih (n / 4) (by omega)
      generalize isq (n / 4) = q at *
      have e1 : (2 * q) * (2 * q) = 4 * (q * q) := by grind
      have e2 : (2 * q + 1 + 1) * (2 * q + 1 + 1) = 4 * ((q + 1) * (q + 1)) := by grind
      split
      · next h3 => exact ⟨h3, by rw [e2]; omega⟩
      · next h3 => exact ⟨by rw [e1]; omega, by omega⟩
def floorN (t p r b : Int) : Int := if p = 0 then t.fdiv b else (t + (if 0 < p then (isq (p * p * r).toNat : Int) else -(isq (p * p * r).toNat : Int) - 1)).fdiv b
def isRootB (v : Int) : Bool := decide (2 ≤ v) && decide (v ≤ 999) && ((List.range (isq v.toNat - 1)).map fun i : Nat => !decide (v.fmod ((2 + (i : Int)) * (2 + (i : Int))) = 0)).all id
theorem isq_le {n q : Nat} (h : n < (q + 1) * (q + 1)) : isq n ≤ q := by
  have h1 := (isq_ok n).1
  refine Nat.le_of_not_lt fun l => ?_
  have := Nat.mul_le_mul (show q + 1 ≤ isq n from l) (show q + 1 ≤ isq n from l)
  omega
theorem le_isq {n q : Nat} (h : q * q ≤ n) : q ≤ isq n := by
  have h1 := (isq_ok n).2
  refine Nat.le_of_not_lt fun l => ?_
  have := Nat.mul_le_mul (show isq n + 1 ≤ q from l) (show isq n + 1 ≤ q from l)
  omega
/-- Newton's step stays above the root -/
theorem newton_ge {a f r : Nat} (hf : 0 < f) (hr : r * r ≤ a) : r ≤ (f + a / f) / 2 := by
  have h1 : a < (a / f + 1) * f := Nat.lt_mul_of_div_lt (Nat.lt_succ_self _) hf
  generalize a / f = q at *
  refine Nat.le_of_not_lt fun l => ?_
  have l2 : f + (q + 1) ≤ 2 * r := by omega
  have l3 := Nat.mul_le_mul l2 l2
  have e : (f + (q + 1)) * (f + (q + 1)) + 0 = (f + (q + 1)) * (f + (q + 1)) := rfl
  rcases Nat.le_total f (q + 1) with c | c
  · obtain ⟨d, hd⟩ := Nat.exists_eq_add_of_le c
    rw [hd] at l3 h1
    have : (f + (f + d)) * (f + (f + d)) = 4 * ((f + d) * f) + d * d := by grind
    have : 2 * r * (2 * r) = 4 * (r * r) := by grind
    omega
  · obtain ⟨d, hd⟩ := Nat.exists_eq_add_of_le c
    rw [hd] at l3 h1
    have : (q + 1 + d + (q + 1)) * (q + 1 + d + (q + 1)) = 4 * ((q + 1) * (q + 1 + d)) + d * d := by grind
    have : 2 * r * (2 * r) = 4 * (r * r) := by grind
    omega
theorem newton_end {a f : Nat} (hf : 0 < f) (h : f ≤ (f + a / f) / 2) : f ≤ isq a := by
  refine le_isq ?_
  have h1 : f ≤ a / f := by omega
  exact Nat.le_trans (Nat.mul_le_mul_right f h1) (Nat.div_mul_le_self a f)
theorem isq_bits (a : Nat) {k : Nat} (h : a < 2 ^ (2 * k)) : isq a ≤ 2 ^ k := by
  refine isq_le (Nat.lt_of_lt_of_le h ?_)
  rw [show 2 * k = k + k by omega, Nat.pow_add]
  exact Nat.mul_le_mul (Nat.le_succ _) (Nat.le_succ _)
theorem b2_bd (c : Bool) : (b2 c).natAbs ≤ 1 := by cases c <;> decide
theorem sgn_abs (v : Int) : (sgn v).natAbs ≤ 1 := by
  unfold sgn b2
  by_cases h : 0 < v <;> by_cases k : v < 0 <;> simp [h, k] <;> omega
theorem sgn_bd (v : Int) : Bd 10 (sgn v) := bd_sm (by have := sgn_abs v; omega) (by decide)
/-- the root of two numbers that go together -/
def cRoot (a b : Nm) : Int := if a.r = 0 then b.r else a.r
def Cm (a b : Nm) : Prop := a.r = 0 ∨ b.r = 0 ∨ a.r = b.r
def addN (a b : Nm) : Nm := mkNm (a.t * b.b + b.t * a.b) (a.p * b.b + b.p * a.b) (cRoot a b) (a.b * b.b)
def subN (a b : Nm) : Nm := mkNm (a.t * b.b - b.t * a.b) (a.p * b.b - b.p * a.b) (cRoot a b) (a.b * b.b)
def mulN (a b : Nm) : Nm := mkNm (a.t * b.t + a.p * b.p * cRoot a b) (a.t * b.p + a.p * b.t) (cRoot a b) (a.b * b.b)
def sizeN (a b : Nm) : Int := b.t * b.t - b.p * b.p * cRoot a b
def overN (a b : Nm) : Nm := mkNm ((a.t * b.t - a.p * b.p * cRoot a b) * b.b) ((a.p * b.t - a.t * b.p) * b.b) (cRoot a b) (sizeN a b * a.b)
def negN (a : Nm) : Nm := mkNm (-a.t) (-a.p) a.r a.b
def mirN (a : Nm) : Nm := mkNm a.t (-a.p) a.r a.b
def normN (a : Nm) : Nm := mkNm (a.t * a.t - a.p * a.p * a.r) 0 0 (a.b * a.b)
/-- a number of fewer than k bits -/
structure Gd (k : Nat) (n : Nm) : Prop where
  b0 : n.b ≠ 0
  t : Bd k n.t
  p : Bd k n.p
  b : Bd k n.b
  r : Bd 10 n.r
  r0 : 0 ≤ n.r
theorem cRoot_bd {k : Nat} {a b : Nm} (h : Gd k a) (g : Gd k b) : Bd 10 (cRoot a b) := by
  unfold cRoot; split
  · exact g.r
  · exact h.r
theorem share_ne {t p b : Int} (h : b ≠ 0) : share t p b ≠ 0 := by
  unfold share gcd3
  have : 0 < Nat.gcd (Nat.gcd t.natAbs p.natAbs) b.natAbs := Nat.gcd_pos_of_pos_right _ (by omega)
  split <;> omega
theorem share_bd {t p b : Int} {n : Nat} (h : b ≠ 0) (k : Bd n b) : Bd n (share t p b) := by
  have l : Nat.gcd (Nat.gcd t.natAbs p.natAbs) b.natAbs ≤ b.natAbs := Nat.gcd_le_right _ (by omega)
  unfold Bd share gcd3 at *
  split <;> omega
end PF

set_option Elab.async false
set_option linter.all false
set_option maxRecDepth 100000
set_option maxHeartbeats 4000000
namespace PF
open PySem PySem.Spec PyProof.Rows L2 SlX
def topS (i : Nat) : Stmt := PySem.Challenge.pw_pieceround_k48_moves_of_places_beside_ro.main.body.getD i (.Pass ⟨0, 0, 0, 0⟩)
/-! ### what the top has written -/
structure Free (mg : Str → Option Value) : Prop where
  b_abs : mg "abs" = none
  b_all : mg "all" = none
  b_bool : mg "bool" = none
  b_dict : mg "dict" = none
  b_enumerate : mg "enumerate" = none
  b_int : mg "int" = none
  b_isinstance : mg "isinstance" = none
  b_len : mg "len" = none
  b_list : mg "list" = none
  b_max : mg "max" = none
  b_min : mg "min" = none
  b_range : mg "range" = none
  b_set : mg "set" = none
  b_sorted : mg "sorted" = none
  b_str : mg "str" = none
  b_tuple : mg "tuple" = none
  b_zip : mg "zip" = none
/-! ### promises -/
def spIsWhole (K : PySem.W.Frag) : Sp := fun vs H Q _ => ∃ x t b, vs = [x] ∧ TyY K H x t ∧ PySem.W.kitOne K t (.type "int") = some b ∧ (b = true → ∃ i, x = .int i) ∧ Q (.bl b) H
def spGcd : Sp := fun vs H Q _ => ∃ a b : Int, vs = [.int a, .int b] ∧ 0 ≤ a ∧ 0 ≤ b ∧ Q (.int ((Nat.gcd a.toNat b.toNat : Nat) : Int)) H
def spRoot : Sp := fun vs H Q _ => ∃ a : Int, vs = [.int a] ∧ 0 ≤ a ∧ Bd 8000 a ∧ Q (.int (isq a.toNat : Int)) H
def spIsRoot : Sp := fun vs H Q _ => ∃ a : Int, vs = [.int a] ∧ ∀ H', Same H H' → Q (.bl (isRootB a)) H'
def spSign : Sp := fun vs H Q _ => ∃ a : Int, vs = [.int a] ∧ Q (.int (sgn a)) H
def spSignSum : Sp := fun vs H Q _ => ∃ t p r : Int, vs = [.int t, .int p, .int r] ∧ Bd 1000000 t ∧ Bd 1000000 p ∧ Bd 10 r ∧ Q (.int (sgnSum t p r)) H
def spFloor : Sp := fun vs H Q _ => ∃ t p r b : Int, vs = [.int t, .int p, .int r, .int b] ∧ Bd 3900 p ∧ 0 ≤ r ∧ Bd 10 r ∧ Bd 9000 b ∧ b ≠ 0 ∧ Q (.int (floorN t p r b)) H
section
variable {P : Program} {w : World} {K : PySem.W.Frag} {mg : Str → Option Value} {base : Heap} {f : Addr} {fd : FuncData}
theorem sc_is_whole : FnScope ["value"] ["value"] (defScope (topS 9)) := ⟨rfl, rfl, rfl, by decide +kernel, rfl, by decide +kernel, by decide +kernel⟩
theorem ok_is_whole (F : Fun K "is_whole" "is_whole" (topS 9) f fd) (fr : Free mg) : FnOk P w K mg base CX0 2 f fd ["value"] (spIsWhole K) := by
  refine F.ok sc_is_whole (fun vs H Q E ⟨_, _, _, e, _⟩ => by rw [e]; rfl) (fun cdv A outer s H vs Q E hr h => ⟨_, (pss_one (ps_ret (pe_and (pe_callB call_isiU (by rfl) fr.b_isinstance (by decide +kernel) (pa_cons (pv 0) (pa_cons (pe_bltn (v := .ty "int") (by rfl) fr.b_int (by decide +kernel) rfl) pa_nil))) (pe_one (pe_not (pe_callB call_isiU (by rfl) fr.b_isinstance (by decide +kernel) (pa_cons (pv 0) (pa_cons (pe_bltn (v := .ty "bool") (by rfl) fr.b_bool (by decide +kernel) rfl) pa_nil)))))))), ?_⟩)
  obtain ⟨x, t, b, rfl, ty, hk, hi, q⟩ := h
  refine ⟨x, rfl, x, .ty "int", t, _, b, rfl, .ty _, ty, hk, b, rfl, ?_⟩
  cases b with
  | false => exact q
  | true =>
    obtain ⟨i, rfl⟩ := hi rfl
    exact ⟨_, rfl, _, .ty "bool", _, _, false, rfl, .ty _, .x (.base (.int i)), kit_ty (by decide +kernel), false, rfl, q⟩

/-! ### the classes Form and Number -/
structure NTxt (K : PySem.W.Frag) (mg : Str → Option Value) (CN CF : Addr) : Prop where
  gN : mg "Number" = some (.ref CN)
  gF : mg "Form" = some (.ref CF)
  cN : SCls K CN
  cF : SCls K CF
  yN : SIsi K CN
  yF : SIsi K CF
  sN_top : ∃ p, Slot1 K CN "own_top" p 3
  sN_part : ∃ p, Slot1 K CN "own_part" p 1
  sN_root : ∃ p, Slot1 K CN "own_root" p 2
  sN_bottom : ∃ p, Slot1 K CN "own_bottom" p 0
  sF_top : ∃ p, Slot1 K CF "own_top" p 3
  sF_part : ∃ p, Slot1 K CF "own_part" p 1
  sF_root : ∃ p, Slot1 K CF "own_root" p 2
  sF_bottom : ∃ p, Slot1 K CF "own_bottom" p 0
  iNN : PySem.W.kitOne K (.ref CN) (.ref CN) = some true
  iFF : PySem.W.kitOne K (.ref CF) (.ref CF) = some true
  iIF : PySem.W.kitOne K (.type "int") (.ref CF) = some false
  iIN : PySem.W.kitOne K (.type "int") (.ref CN) = some false
  iNI : PySem.W.kitOne K (.ref CN) (.type "int") = some false
/-- the slots of a number, of a form -/
def sl4 (n : Nm) : List (Option V) := [some (.int n.b), some (.int n.p), some (.int n.r), some (.int n.t)]
/-- v is an instance of C with these four integers -/
def At4 (C : Addr) (H : Hp) (v : V) (n : Nm) : Prop := ∃ a dx, v = .ref a ∧ Slt H a C dx (sl4 n)
theorem At4.same {C : Addr} {H H' : Hp} {v : V} {n : Nm} (h : At4 C H v n) (s : Same H H') : At4 C H' v n := by
  obtain ⟨a, dx, rfl, h⟩ := h
  refine ⟨a, dx, rfl, ?_⟩
  rcases h with ⟨_, h2⟩ | ⟨h1, h2⟩
  · cases h2
  · exact .inr ⟨s _ _ h1, s _ _ h2⟩
def okRoot (r p : Int) : Prop := (r = 0 ∧ p = 0) ∨ isRootB r = true
/-- what the numbers' own calls take -/
def Arg4 (CF : Addr) (H : Hp) (rest : List V) (n : Nm) : Prop := (∃ v, rest = [v, .int 0, .int 0, .int 1] ∧ At4 CF H v n) ∨ ∃ t p r b, rest = [.int t, .int p, .int r, .int b] ∧ b ≠ 0 ∧ okRoot r p ∧ Bd 9000 b ∧ n = mkNm t p r b
def spFormI (CF : Addr) : Sp := fun vs H Q _ => ∃ (a dx : Addr) (t p r b : Int), vs = [.ref a, .int t, .int p, .int r, .int b] ∧ dx ≠ a ∧ Slt H a CF dx [] ∧ b ≠ 0 ∧ Bd 9000 b ∧ Q .non (slH H a CF dx (sl4 (mkNm t p r b)))
def spFormIn (CF : Addr) : Sp := fun vs H Q _ => ∃ n, Arg4 CF H vs n ∧ ∀ v H', Same H H' → At4 CF H' v n → Q v H'
def spNumI (CN CF : Addr) : Sp := fun vs H Q _ => ∃ (a dx : Addr) (rest : List V) (n : Nm), vs = .ref a :: rest ∧ dx ≠ a ∧ (H a = some (.ins CN dx []) ∧ H dx = some (.own a)) ∧ Arg4 CF H rest n ∧ ∀ H1, Same H H1 → Q .non (slH H1 a CN dx (sl4 n))
section
variable {P : Program} {w : World} {K : PySem.W.Frag} {mg : Str → Option Value} {base : Heap} {f CN CF : Addr} {fd : FuncData}

theorem same_made {H : Hp} {x dx C : Addr} {vs : List (Option V)} (nx : H x = none) (nd : H dx = none) : Same H (slH (upd (upd H dx (.own x)) x (.ins C dx [])) x C dx vs) := fun b o e => by
  have h1 : b ≠ x := ne_of_none e nx
  have h2 : b ≠ dx := ne_of_none e nd
  rw [slH_ne h1 h2, upd_ne h1, upd_ne h2]; exact e
theorem same_new {H : Hp} {x dx C : Addr} (nx : H x = none) (nd : H dx = none) : Same H (upd (upd H dx (.own x)) x (.ins C dx [])) := fun b o e => by
  rw [upd_ne (ne_of_none e nx), upd_ne (ne_of_none e nd)]; exact e
theorem form_made {H : Hp} {Q : VK} {t p r b : Int} (b0 : b ≠ 0) (hb : Bd 9000 b) (q : ∀ v H', Same H H' → At4 CF H' v (mkNm t p r b) → Q v H') :
    ∀ x dx, H x = none → H dx = none → dx ≠ x → spFormI CF (.ref x :: [.int t, .int p, .int r, .int b]) (upd (upd H dx (.own x)) x (.ins CF dx [])) (fun v H2 => v = .non ∧ Q (.ref x) H2) E0 := fun x dx nx nd ne =>
  ⟨x, dx, t, p, r, b, rfl, ne, .inl ⟨upd_same, rfl⟩, b0, hb, rfl, q _ _ (same_made nx nd) ⟨x, dx, rfl, slH_slt ne⟩⟩
theorem Arg4.same {H H' : Hp} {vs : List V} {n : Nm} (h : Arg4 CF H vs n) (s : Same H H') : Arg4 CF H' vs n := h.imp (fun ⟨v, e, h⟩ => ⟨v, e, h.same s⟩) id
theorem slH_same {H H1 : Hp} {x dx C C' : Addr} {vs : List (Option V)} (nx : H x = none) (nd : H dx = none) (s : Same (upd (upd H dx (.own x)) x (.ins C dx [])) H1) : Same H (slH H1 x C' dx vs) := fun b o e => by
  have h1 : b ≠ x := ne_of_none e nx
  have h2 : b ≠ dx := ne_of_none e nd
  rw [slH_ne h1 h2]
  exact s _ _ (by rw [upd_ne h1, upd_ne h2]; exact e)
theorem num_made {H : Hp} {Q : VK} {vs : List V} {n : Nm} (h : Arg4 CF H vs n) (q : ∀ v H', Same H H' → At4 CN H' v n → Q v H') :
    ∀ x dx, H x = none → H dx = none → dx ≠ x → spNumI CN CF (.ref x :: vs) (upd (upd H dx (.own x)) x (.ins CN dx [])) (fun v H2 => v = .non ∧ Q (.ref x) H2) E0 := fun x dx nx nd ne =>
  ⟨x, dx, vs, n, rfl, ne, ⟨upd_same, by rw [upd_ne ne, upd_same]⟩, h.same (same_new nx nd), fun H1 s => ⟨rfl, q _ _ (slH_same nx nd s) ⟨x, dx, rfl, slH_slt ne⟩⟩⟩
theorem At4.ty {H : Hp} {v : V} {n : Nm} {C : Addr} (h : At4 C H v n) (c : SCls K C) (i : SIsi K C) : TyY K H v (.ref C) := by
  obtain ⟨a, dx, rfl, h⟩ := h
  exact .slt h c i
theorem ty_int (H : Hp) (i : Int) : TyY K H (.int i) (.type "int") := .x (.base (.int i))
theorem kit_ii : PySem.W.kitOne K (.type "int") (.type "int") = some true := kit_ty (by decide +kernel)
end
end
/-! ### what is done with numbers -/
def NI (CN : Addr) (H : Hp) (y : V) (n : Nm) : Prop := At4 CN H y n ∨ ∃ i, y = .int i ∧ n = mkNm i 0 0 1
theorem mk_int_bd (i : Int) : mkNm i 0 0 1 = ⟨i, 0, 0, 1⟩ := by
  have e : share i 0 1 = 1 := by unfold share gcd3; rw [if_pos (by decide)]; simp
  unfold mkNm; rw [e]; simp
def spLike (CN : Addr) : Sp := fun vs H Q _ => ∃ x n, vs = [x] ∧ NI CN H x n ∧ Q (.bl true) H
def spNumOf (CN : Addr) : Sp := fun vs H Q _ => ∃ x n, vs = [x] ∧ NI CN H x n ∧ ∀ v H', Same H H' → At4 CN H' v n → Q v H'
def spCommon (CN : Addr) : Sp := fun vs H Q _ => ∃ x y a b, vs = [x, y] ∧ At4 CN H x a ∧ At4 CN H y b ∧ Cm a b ∧ Q (.int (cRoot a b)) H
/-- a number by a number or an integer -/
def spBin (CN : Addr) (g : Nm → Nm → Nm) (C : Nm → Nm → Prop) : Sp := fun vs H Q _ => ∃ x y a b, vs = [x, y] ∧ At4 CN H x a ∧ NI CN H y b ∧ Cm a b ∧ Gd 1000 a ∧ Gd 1000 b ∧ C a b ∧ ∀ v H', Same H H' → At4 CN H' v (g a b) → Q v H'
def cmpN (a b : Nm) : Int := sgnSum (a.t * b.b - b.t * a.b) (a.p * b.b - b.p * a.b) (cRoot a b)
def spCmp (CN : Addr) : Sp := fun vs H Q _ => ∃ x y a b, vs = [x, y] ∧ At4 CN H x a ∧ NI CN H y b ∧ Cm a b ∧ Gd 1000 a ∧ Gd 1000 b ∧ ∀ H', Same H H' → Q (.int (cmpN a b)) H'
def spUn (CN : Addr) (g : Nm → Nm) : Sp := fun vs H Q _ => ∃ x a, vs = [x] ∧ At4 CN H x a ∧ Gd 1000 a ∧ ∀ v H', Same H H' → At4 CN H' v (g a) → Q v H'
def spInt (CN : Addr) (g : Nm → Int) : Sp := fun vs H Q _ => ∃ x a, vs = [x] ∧ At4 CN H x a ∧ Gd 3800 a ∧ Q (.int (g a)) H
def spInt0 (CN : Addr) (g : Nm → Int) : Sp := fun vs H Q _ => ∃ x a, vs = [x] ∧ At4 CN H x a ∧ Q (.int (g a)) H
def spEq (K : PySem.W.Frag) (CN : Addr) : Sp := fun vs H Q _ => ∃ x y a, vs = [x, y] ∧ At4 CN H x a ∧ ((∃ b, At4 CN H y b ∧ Q (.bl (decide (a = b))) H) ∨ ∃ t, TyY K H y t ∧ PySem.W.kitOne K t (.ref CN) = some false ∧ Q (.bl false) H)
section
variable {P : Program} {w : World} {K : PySem.W.Frag} {mg : Str → Option Value} {base : Heap} {f CN CF : Addr} {fd : FuncData}
end
end PF

set_option Elab.async false
set_option linter.all false
set_option maxRecDepth 100000
set_option maxHeartbeats 4000000
namespace PF
open PySem PySem.Spec PyProof.Rows L2 SlX
/-! ### one by one -/
inductive All2 {α : Type} (f : V → α → Prop) : List V → List α → Prop where
  | nil : All2 f [] []
  | cons {v : V} {n : α} {vs : List V} {ns : List α} (h : f v n) (t : All2 f vs ns) : All2 f (v :: vs) (n :: ns)
section
variable {α : Type} {f g : V → α → Prop} {vs ws : List V} {ns ms : List α} {v : V} {n : α}
theorem All2.append (h : All2 f vs ns) (k : All2 f ws ms) : All2 f (vs ++ ws) (ns ++ ms) := by
  induction h with
  | nil => exact k
  | cons h _ ih => exact .cons h ih
theorem All2.snoc (h : All2 f vs ns) (k : f v n) : All2 f (vs ++ [v]) (ns ++ [n]) := h.append (.cons k .nil)
theorem All2.imp (h : All2 f vs ns) (k : ∀ v n, f v n → g v n) : All2 g vs ns := by
  induction h with
  | nil => exact .nil
  | cons h _ ih => exact .cons (k _ _ h) ih
theorem All2.len (h : All2 f vs ns) : vs.length = ns.length := by
  induction h with
  | nil => rfl
  | cons h _ ih => rw [List.length_cons, List.length_cons, ih]
theorem All2.get (h : All2 f vs ns) {i : Nat} {n : α} (e : ns[i]? = some n) : ∃ v, vs[i]? = some v ∧ f v n := by
  induction h generalizing i with
  | nil => simp at e
  | cons h _ ih => cases i with
    | zero => simp at e; subst e; exact ⟨_, rfl, h⟩
    | succ i => simpa using ih (by simpa using e)
theorem All2.set (h : All2 f vs ns) (i : Nat) (k : f v n) : All2 f (vs.set i v) (ns.set i n) := by
  induction h generalizing i with
  | nil => exact .nil
  | cons h t ih => cases i with
    | zero => exact .cons k t
    | succ i => exact .cons h (ih i)
theorem All2.erase (h : All2 f vs ns) (i : Nat) : All2 f (vs.eraseIdx i) (ns.eraseIdx i) := by
  induction h generalizing i with
  | nil => exact .nil
  | cons h t ih => cases i with
    | zero => exact t
    | succ i => exact .cons h (ih i)
theorem All2.take (h : All2 f vs ns) (i : Nat) : All2 f (vs.take i) (ns.take i) := by
  induction h generalizing i with
  | nil => simp; exact .nil
  | cons h t ih => cases i with
    | zero => simp; exact .nil
    | succ i => exact .cons h (ih i)
theorem All2.drop (h : All2 f vs ns) (i : Nat) : All2 f (vs.drop i) (ns.drop i) := by
  induction h generalizing i with
  | nil => simp; exact .nil
  | cons h t ih => cases i with
    | zero => exact .cons h t
    | succ i => simpa using ih i
theorem All2.rev (h : All2 f vs ns) : All2 f vs.reverse ns.reverse := by
  induction h with
  | nil => exact .nil
  | cons h _ ih => rw [List.reverse_cons, List.reverse_cons]; exact ih.snoc h
theorem All2.of_map {β : Type} (t : α → V) (k : ∀ n, f (t n) n) : ∀ ns : List α, All2 f (ns.map t) ns
  | [] => .nil
  | n :: ns => .cons (k n) (All2.of_map (β := β) t k ns)
theorem All2.to_map (t : α → V) (k : ∀ v n, f v n → v = t n) (h : All2 f vs ns) : vs = ns.map t := by
  induction h with
  | nil => rfl
  | cons h _ ih => rw [k _ _ h, ih]; rfl
end

/-! ### the dice -/
/-- all that was tracked stays, but the list at p -/
def SameB (p : Addr) (H H' : Hp) : Prop := ∀ b o, b ≠ p → H b = some o → H' b = some o
theorem SameB.refl (p : Addr) (H : Hp) : SameB p H H := fun _ _ _ h => h
theorem SameB.trans {p : Addr} {H H1 H2 : Hp} (a : SameB p H H1) (b : SameB p H1 H2) : SameB p H H2 := fun c o n h => b c o n (a c o n h)
theorem Same.b {p : Addr} {H H' : Hp} (a : Same H H') : SameB p H H' := fun b o _ h => a b o h
theorem SameB.upd {p : Addr} {H H' : Hp} {o : HO} (a : SameB p H H') : SameB p H (upd H' p o) := fun b u n h => by rw [upd_ne n]; exact a b u n h
theorem same_upd {H : Hp} {p : Addr} {o : HO} (h : H p = none) : Same H (upd H p o) := fun b u e => by rw [upd_ne (ne_of_none e h)]; exact e
/-- the dice at p, rolled at most c times -/
def Dice (p : Addr) (H : Hp) (c : Nat) : Prop := ∃ d0 d1 d2 : Int, H p = some (.lst [.int d0, .int d1, .int d2]) ∧ 0 ≤ d0 ∧ Bd 420 d0 ∧ Bd 200 d1 ∧ 0 ≤ d2 ∧ d2 ≤ c
theorem Dice.same {p : Addr} {H H' : Hp} {c : Nat} (d : Dice p H c) (s : Same H H') : Dice p H' c := by
  obtain ⟨d0, d1, d2, h, r⟩ := d
  exact ⟨d0, d1, d2, s _ _ h, r⟩
theorem Dice.mono {p : Addr} {H : Hp} {c c' : Nat} (d : Dice p H c) (l : c ≤ c') : Dice p H c' := by
  obtain ⟨d0, d1, d2, h, a, b, e, f, g⟩ := d
  exact ⟨d0, d1, d2, h, a, b, e, f, by omega⟩

/-! ### what must hold: plain programs -/
/-- an error: its class's name, what it keeps -/
structure Er where
  cls : Str
  val : PyData
structure M (α : Type) where
  wp : Nat → (α → Nat → Prop) → (Er → Prop) → Prop
  mono : ∀ (c : Nat) {P Q : α → Nat → Prop} {X Y : Er → Prop}, (∀ a d, P a d → Q a d) → (∀ e, X e → Y e) → wp c P X → wp c Q Y
namespace M
variable {α β γ : Type}
def ret (a : α) : M α := ⟨fun c Q _ => Q a c, fun _ _ _ _ _ h _ k => h _ _ k⟩
def bind (m : M α) (f : α → M β) : M β := ⟨fun c Q X => m.wp c (fun a d => (f a).wp d Q X) X, fun c _ _ _ _ h x k => m.mono c (fun a d q => (f a).mono d h x q) x k⟩
/-- ahead of the rest, p must hold -/
def need (p : Prop) (m : M α) : M α := ⟨fun c Q X => p ∧ m.wp c Q X, fun c _ _ _ _ h x k => ⟨k.1, m.mono c h x k.2⟩⟩
/-- any value of which P holds -/
def anyOf (P : α → Prop) : M α := ⟨fun c Q _ => ∀ a, P a → Q a c, fun _ _ _ _ _ h _ k a p => h _ _ (k a p)⟩
/-- the value that is there -/
def the (o : Option α) : M α := ⟨fun c Q _ => ∃ a, o = some a ∧ Q a c, fun _ _ _ _ _ h _ ⟨a, e, k⟩ => ⟨a, e, h _ _ k⟩⟩
def ifb (b : Bool) (m n : M α) : M α := ⟨fun c Q X => if b = true then m.wp c Q X else n.wp c Q X, fun c _ _ _ _ h x k => by
  by_cases e : b = true
  · rw [if_pos e] at k ⊢; exact m.mono c h x k
  · rw [if_neg e] at k ⊢; exact n.mono c h x k⟩
def raise (e : Er) : M α := ⟨fun _ _ X => X e, fun _ _ _ _ _ _ x k => x _ k⟩
/-- without the dice -/
def still (m : M α) : M α := ⟨fun c Q X => m.wp 0 (fun a _ => Q a c) X, fun _ _ _ _ _ h x k => m.mono 0 (fun a _ q => h _ _ q) x k⟩
def roll (t : Int) : M Int := ⟨fun c Q _ => c < 2 ^ 60 ∧ 0 < t ∧ Bd 9000 t ∧ ∀ r, 0 ≤ r → r < t → Q r (c + 1), fun c _ _ _ _ h _ k => ⟨k.1, k.2.1, k.2.2.1, fun r a b => h _ _ (k.2.2.2 r a b)⟩⟩
def pick (xs : List α) : M α := ⟨fun c Q _ => c < 2 ^ 60 ∧ 0 < xs.length ∧ xs.length ≤ 1000 ∧ ∀ x ∈ xs, Q x (c + 1), fun c _ _ _ _ h _ k => ⟨k.1, k.2.1, k.2.2.1, fun x a => h _ _ (k.2.2.2 x a)⟩⟩
end M

/-! ### heaps: F what stays for ever, H all that is tracked; p the dice -/
/-- lists, dicts, sets -/
def lsty : HO → Bool
  | .lst _ => true
  | .dK _ => true
  | .dT _ => true
  | .set _ _ => true
  | _ => false
/-- new, or a list, a dict, a set -/
def NwL (H : Hp) (D : Addr) : Prop := H D = none ∨ ∃ o, H D = some o ∧ lsty o = true
theorem NwL.lst {H : Hp} {D : Addr} {vs : List V} (h : H D = some (.lst vs)) : NwL H D := .inr ⟨_, h, rfl⟩
theorem NwL.dK {H : Hp} {D : Addr} {kvs : List (Key × V)} (h : H D = some (.dK kvs)) : NwL H D := .inr ⟨_, h, rfl⟩
theorem some_ne {H : Hp} {b : Addr} {o : HO} (h : H b = some o) : H b ≠ none := fun z => by rw [h] at z; cases z
structure ExtX (p : Option Addr) (F H F' H' : Hp) : Prop where
  fz : Same F F'
  sub : Same F' H'
  hp : ∀ b o, p ≠ some b → H b = some o → H' b = some o
  old : ∀ b, H b ≠ none → F' b = F b
  on : ∀ b, H b ≠ none → H' b ≠ none
theorem ExtX.refl {p : Option Addr} {F H : Hp} (s : Same F H) : ExtX p F H F H := ⟨Same.refl F, s, fun _ _ _ h => h, fun _ _ => rfl, fun _ h => h⟩
theorem ExtX.trans {p : Option Addr} {F H F1 H1 F2 H2 : Hp} (a : ExtX p F H F1 H1) (b : ExtX p F1 H1 F2 H2) : ExtX p F H F2 H2 :=
  ⟨a.fz.trans b.fz, b.sub, fun c o n h => b.hp c o n (a.hp c o n h), fun c n => (b.old c (a.on c n)).trans (a.old c n), fun c n => b.on c (a.on c n)⟩
/-- a new thing that stays -/
theorem ExtX.new {p : Option Addr} {F H : Hp} (s : Same F H) {q : Addr} (n : H q = none) (o : HO) : ExtX p F H (upd F q o) (upd H q o) := by
  have nF : F q = none := s.free n
  refine ⟨same_upd nF, fun b u e => ?_, fun b u _ e => same_upd n b u e, fun b h => ?_, fun b nb => ?_⟩
  · by_cases c : b = q
    · subst c; rw [upd_same] at e ⊢; exact e
    · rw [upd_ne c] at e ⊢; exact s _ _ e
  · exact upd_ne fun z => h (by rw [z]; exact n)
  · by_cases c : b = q
    · subst c; rw [upd_same]; simp
    · rw [upd_ne c]; exact nb
/-- a new thing of one's own -/
theorem ExtX.own {p : Option Addr} {F H : Hp} (s : Same F H) {q : Addr} (n : H q = none) (o : HO) : ExtX p F H F (upd H q o) := by
  refine ⟨Same.refl F, fun b u e => same_upd n _ _ (s _ _ e), fun b u _ e => same_upd n b u e, fun b _ => rfl, fun b nb => ?_⟩
  by_cases c : b = q
  · subst c; rw [upd_same]; simp
  · rw [upd_ne c]; exact nb
/-- from H to a heap with all of it, nothing new taken as staying -/
theorem ExtX.same {p : Option Addr} {F H H' : Hp} (s : Same F H) (e : Same H H') : ExtX p F H F H' :=
  ⟨Same.refl F, s.trans e, fun b o _ h => e b o h, fun _ _ => rfl, fun b nb => by
    cases q : H b with
    | none => exact absurd q nb
    | some o => rw [e b o q]; simp⟩

/-- what is so all through one call -/
structure Cn where
  p : Option Addr
  F0 : Hp
  H0 : Hp
structure Wo (k : Cn) (F H : Hp) (c : Nat) : Prop where
  sub : Same F H
  ext : ExtX k.p k.F0 k.H0 F H
  dice : ∀ a, k.p = some a → F a = none ∧ k.H0 a ≠ none ∧ Dice a H c
theorem Wo.new {k : Cn} {F H : Hp} {c : Nat} (w : Wo k F H c) {q : Addr} (n : H q = none) (o : HO) : Wo k (upd F q o) (upd H q o) c := by
  have x := ExtX.new (p := k.p) w.sub n o
  refine ⟨x.sub, w.ext.trans x, fun a e => ?_⟩
  obtain ⟨h1, h2, h3⟩ := w.dice a e
  have ne : a ≠ q := fun z => by
    subst z
    obtain ⟨_, _, _, h, _⟩ := h3
    rw [h] at n; cases n
  refine ⟨by rw [upd_ne ne]; exact h1, h2, h3.same (same_upd n)⟩
theorem Wo.own {k : Cn} {F H : Hp} {c : Nat} (w : Wo k F H c) {q : Addr} (n : H q = none) (o : HO) : Wo k F (upd H q o) c := by
  have x := ExtX.own (p := k.p) w.sub n o
  refine ⟨x.sub, w.ext.trans x, fun a e => ?_⟩
  obtain ⟨h1, h2, h3⟩ := w.dice a e
  exact ⟨h1, h2, h3.same (same_upd n)⟩
/-- a call that leaves the dice as they are -/
theorem Wo.call {k : Cn} {F H F' H' : Hp} {c : Nat} (w : Wo k F H c) (x : ExtX none F H F' H') : ExtX k.p F H F' H' ∧ Wo k F' H' c := by
  have y : ExtX k.p F H F' H' := ⟨x.fz, x.sub, fun b o _ h => x.hp b o (fun z => nomatch z) h, x.old, x.on⟩
  refine ⟨y, x.sub, w.ext.trans y, fun a e => ?_⟩
  obtain ⟨h1, h2, h3⟩ := w.dice a e
  obtain ⟨d0, d1, d2, h, r⟩ := h3
  exact ⟨(x.old a (some_ne h)).trans h1, h2, d0, d1, d2, x.hp a _ (fun z => nomatch z) h, r⟩

/-! ### how plain values stand in the heap -/
structure Rp (α : Type) where
  r : Hp → V → α → Prop
  st : ∀ {F F' : Hp} {v : V} {a : α}, Same F F' → r F v a → r F' v a
def rInt : Rp Int := ⟨fun _ v i => v = .int i, fun _ h => h⟩
def rBl : Rp Bool := ⟨fun _ v b => v = .bl b, fun _ h => h⟩
def rStr : Rp Str := ⟨fun _ v x => v = .str x, fun _ h => h⟩
def rNon : Rp Unit := ⟨fun _ v _ => v = .non, fun _ h => h⟩
def rLst {α : Type} (K : PySem.W.Frag) (R : Rp α) : Rp (List α) :=
  ⟨fun F v xs => ∃ p vs, v = .ref p ∧ SqL K F p vs ∧ All2 (R.r F) vs xs, fun s ⟨p, vs, e, h, t⟩ => ⟨p, vs, e, s.seq h, t.imp fun _ _ g => R.st s g⟩⟩
theorem same_seqT {K : PySem.W.Frag} {H H' : Hp} {a : Addr} {xs : List V} (e : Same H H') (h : SqT K H a xs) : SqT K H' a xs := by
  rcases h with (h | ⟨o, h⟩) | h
  · exact .inl (.inl (e _ _ h))
  · exact .inl (.inr ⟨o, e _ _ h⟩)
  · exact .inr h
def rTup {α : Type} (K : PySem.W.Frag) (R : Rp α) : Rp (List α) :=
  ⟨fun F v xs => ∃ p vs, v = .ref p ∧ SqT K F p vs ∧ All2 (R.r F) vs xs, fun s ⟨p, vs, e, h, t⟩ => ⟨p, vs, e, same_seqT s h, t.imp fun _ _ g => R.st s g⟩⟩
/-- rows of values -/
structure RA (α : Type) where
  r : Hp → List V → α → Prop
  st : ∀ {F F' : Hp} {vs : List V} {a : α}, Same F F' → r F vs a → r F' vs a
  n : Nat
  len : ∀ {F : Hp} {vs : List V} {a : α}, r F vs a → vs.length = n
def aNil : RA Unit := ⟨fun _ vs _ => vs = [], fun _ h => h, 0, fun h => by rw [h]; rfl⟩
def aCons {α β : Type} (R : Rp α) (S : RA β) : RA (α × β) :=
  ⟨fun F vs a => ∃ v ws, vs = v :: ws ∧ R.r F v a.1 ∧ S.r F ws a.2, fun s ⟨v, ws, e, h, t⟩ => ⟨v, ws, e, R.st s h, S.st s t⟩, S.n + 1, fun ⟨v, ws, e, h, t⟩ => by rw [e, List.length_cons, S.len t]⟩
/-- a tuple of several kinds -/
def rTx {α : Type} (K : PySem.W.Frag) (S : RA α) : Rp α :=
  ⟨fun F v a => ∃ p vs, v = .ref p ∧ SqT K F p vs ∧ S.r F vs a, fun s ⟨p, vs, e, h, t⟩ => ⟨p, vs, e, same_seqT s h, S.st s t⟩⟩

/-! ### slots, the names of a def -/
structure SR (α : Type) where
  r : Option Addr → Hp → Hp → Hp → Option V → α → Prop
  own : Option V → Option Addr
  step : ∀ {p : Option Addr} {H0 F H F' H' : Hp} {o : Option V} {a : α}, ExtX p F H F' H' → r p H0 F H o a → r p H0 F' H' o a
  upd : ∀ {p : Option Addr} {H0 F H : Hp} {o : Option V} {a : α} {D : Addr} {x : HO}, own o ≠ some D → NwL H D → r p H0 F H o a → r p H0 F (L2.upd H D x) o a
  fz : ∀ {p : Option Addr} {H0 F H : Hp} {o : Option V} {a : α} {D : Addr} {x : HO}, Same F (L2.upd F D x) → own o ≠ some D → NwL H D → r p H0 F H o a → r p H0 (L2.upd F D x) H o a
  has : ∀ {p : Option Addr} {H0 F H : Hp} {o : Option V} {a : α} {D : Addr}, r p H0 F H o a → own o = some D → H D ≠ none ∧ F D = none ∧ H0 D = none ∧ p ≠ some D
/-- not to be read -/
def sUn : SR Unit := ⟨fun _ _ _ _ _ _ => True, fun _ => none, fun _ h => h, fun _ _ h => h, fun _ _ _ h => h, fun _ e => nomatch e⟩
def sVal {α : Type} (R : Rp α) : SR α :=
  ⟨fun _ _ F _ o a => ∃ v, o = some v ∧ R.r F v a, fun _ => none, fun x ⟨v, e, h⟩ => ⟨v, e, R.st x.fz h⟩, fun _ _ h => h, fun s _ _ ⟨v, e, h⟩ => ⟨v, e, R.st s h⟩, fun _ e => nomatch e⟩
/-- the dice -/
def sDice : SR Unit := ⟨fun p _ _ _ o _ => ∃ a, o = some (.ref a) ∧ p = some a, fun _ => none, fun _ h => h, fun _ _ h => h, fun _ _ _ h => h, fun _ e => nomatch e⟩
/-- a list of the def's own, which nothing else leads to -/
def sOwn {α : Type} (R : Rp α) : SR (List α) where
  r := fun p H0 F H o xs => ∃ D vs, o = some (.ref D) ∧ H D = some (.lst vs) ∧ All2 (R.r F) vs xs ∧ F D = none ∧ H0 D = none ∧ p ≠ some D
  own := fun o => match o with
    | some (.ref D) => some D
    | _ => none
  step := fun x ⟨D, vs, e, h, t, n1, n2, n3⟩ => ⟨D, vs, e, x.hp D _ n3 h, t.imp fun _ _ g => R.st x.fz g, (x.old D (some_ne h)).trans n1, n2, n3⟩
  upd := fun c _ ⟨D, vs, e, h, t, n1, n2, n3⟩ => ⟨D, vs, e, by rw [upd_ne (fun z => c (by rw [e, z]))]; exact h, t, n1, n2, n3⟩
  fz := fun s c _ ⟨D, vs, e, h, t, n1, n2, n3⟩ => ⟨D, vs, e, h, t.imp fun _ _ g => R.st s g, by rw [upd_ne (fun z => c (by rw [e, z]))]; exact n1, n2, n3⟩
  has := fun ⟨D, vs, e, h, t, n1, n2, n3⟩ c => by
    subst e
    cases c
    exact ⟨by rw [h]; simp, n1, n2, n3⟩

structure EV (Γ : Type) where
  r : Option Addr → Hp → Hp → Hp → L2.St → Γ → Prop
  owns : L2.St → List Addr
  step : ∀ {p : Option Addr} {H0 F H F' H' : Hp} {σ : L2.St} {ρ : Γ}, ExtX p F H F' H' → r p H0 F H σ ρ → r p H0 F' H' σ ρ
  upd : ∀ {p : Option Addr} {H0 F H : Hp} {σ : L2.St} {ρ : Γ} {D : Addr} {x : HO}, D ∉ owns σ → NwL H D → r p H0 F H σ ρ → r p H0 F (L2.upd H D x) σ ρ
  fz : ∀ {p : Option Addr} {H0 F H : Hp} {σ : L2.St} {ρ : Γ} {D : Addr} {x : HO}, Same F (L2.upd F D x) → D ∉ owns σ → NwL H D → r p H0 F H σ ρ → r p H0 (L2.upd F D x) H σ ρ
  has : ∀ {p : Option Addr} {H0 F H : Hp} {σ : L2.St} {ρ : Γ} {D : Addr}, r p H0 F H σ ρ → D ∈ owns σ → H D ≠ none ∧ F D = none ∧ H0 D = none ∧ p ≠ some D
def eNil : EV Unit := ⟨fun _ _ _ _ σ _ => σ = [], fun _ => [], fun _ h => h, fun _ _ h => h, fun _ _ _ h => h, fun _ h => nomatch h⟩
def eCons {α Γ : Type} (S : SR α) (E : EV Γ) : EV (α × Γ) where
  r := fun p H0 F H σ ρ => ∃ o τ, σ = o :: τ ∧ S.r p H0 F H o ρ.1 ∧ E.r p H0 F H τ ρ.2
  owns := fun σ => match σ with
    | [] => []
    | o :: τ => (S.own o).toList ++ E.owns τ
  step := fun x ⟨o, τ, e, h, t⟩ => ⟨o, τ, e, S.step x h, E.step x t⟩
  upd := fun c w ⟨o, τ, e, h, t⟩ => ⟨o, τ, e, S.upd (fun z => c (by rw [e]; exact List.mem_append_left _ (by rw [z]; simp))) w h, E.upd (fun z => c (by rw [e]; exact List.mem_append_right _ z)) w t⟩
  fz := fun s c w ⟨o, τ, e, h, t⟩ => ⟨o, τ, e, S.fz s (fun z => c (by rw [e]; exact List.mem_append_left _ (by rw [z]; simp))) w h, E.fz s (fun z => c (by rw [e]; exact List.mem_append_right _ z)) w t⟩
  has := fun ⟨o, τ, e, h, t⟩ c => by
    subst e
    rcases List.mem_append.mp c with c | c
    · exact S.has h (by cases q : S.own o with
        | none => rw [q] at c; simp at c
        | some x => rw [q] at c; simp at c; rw [c])
    · exact E.has t c
/-- the names of a def, all apart -/
structure EI {Γ : Type} (k : Cn) (E : EV Γ) (F H : Hp) (σ : L2.St) (ρ : Γ) : Prop where
  r : E.r k.p k.H0 F H σ ρ
  nd : (E.owns σ).Nodup
theorem EI.step {Γ : Type} {k : Cn} {E : EV Γ} {F H F' H' : Hp} {σ : L2.St} {ρ : Γ} (e : EI k E F H σ ρ) (x : ExtX k.p F H F' H') : EI k E F' H' σ ρ := ⟨E.step x e.r, e.nd⟩
structure GetS {Γ α : Type} (E : EV Γ) (i : Nat) (S : SR α) (g : Γ → α) : Prop where
  get : ∀ {p : Option Addr} {H0 F H : Hp} {σ : L2.St} {ρ : Γ}, E.r p H0 F H σ ρ → ∃ o, σ[i]? = some o ∧ S.r p H0 F H o (g ρ)
theorem get0 {Γ α : Type} {S : SR α} {E : EV Γ} : GetS (eCons S E) 0 S (·.1) := ⟨fun ⟨o, τ, e, h, _⟩ => ⟨o, by rw [e]; rfl, h⟩⟩
theorem getS {Γ α β : Type} {S : SR α} {T : SR β} {E : EV Γ} {i : Nat} {g : Γ → α} (h : GetS E i S g) : GetS (eCons T E) (i + 1) S (fun ρ => g ρ.2) :=
  ⟨fun ⟨o, τ, e, _, t⟩ => by obtain ⟨o', q, r⟩ := h.get t; exact ⟨o', by rw [e]; simpa using q, r⟩⟩
structure PutS {Γ Γ' β : Type} (E : EV Γ) (i : Nat) (S' : SR β) (E' : EV Γ') (put : Γ → β → Γ') : Prop where
  put : ∀ {p : Option Addr} {H0 F H : Hp} {σ : L2.St} {ρ : Γ} {o : Option V} {b : β}, E.r p H0 F H σ ρ → S'.r p H0 F H o b → E'.r p H0 F H (σ.set i o) (put ρ b)
  sub : ∀ {σ : L2.St} {o : Option V} {x : Addr}, x ∈ E'.owns (σ.set i o) → x ∈ E.owns σ ∨ S'.own o = some x
  nd : ∀ {σ : L2.St} {o : Option V}, (E.owns σ).Nodup → (∀ D, S'.own o = some D → D ∉ E.owns σ) → (E'.owns (σ.set i o)).Nodup
theorem put0 {Γ α β : Type} {S : SR α} {S' : SR β} {E : EV Γ} : PutS (eCons S E) 0 S' (eCons S' E) (fun ρ b => (b, ρ.2)) where
  put := fun ⟨o, τ, e, _, t⟩ h => ⟨_, τ, by rw [e]; rfl, h, t⟩
  sub := fun {σ o x} h => by
    cases σ with
    | nil => exact .inl h
    | cons y τ =>
      rcases List.mem_append.mp h with h | h
      · exact .inr (by cases q : S'.own o with
          | none => rw [q] at h; simp at h
          | some x => rw [q] at h; simp at h; rw [h])
      · exact .inl (List.mem_append_right _ h)
  nd := fun {σ o} n a => by
    cases σ with
    | nil => exact n
    | cons y τ =>
      have n2 : (E.owns τ).Nodup := (List.nodup_append.mp n).2.1
      show ((S'.own o).toList ++ E.owns τ).Nodup
      cases q : S'.own o with
      | none => simpa using n2
      | some x => simpa using ⟨fun z => a x q (List.mem_append_right _ z), n2⟩
theorem putS {Γ Γ' α β : Type} {S' : SR β} {T : SR α} {E : EV Γ} {E' : EV Γ'} {i : Nat} {put : Γ → β → Γ'} (h : PutS E i S' E' put) : PutS (eCons T E) (i + 1) S' (eCons T E') (fun ρ b => (ρ.1, put ρ.2 b)) where
  put := fun ⟨o, τ, e, q, t⟩ s => ⟨o, τ.set i _, by rw [e]; rfl, q, h.put t s⟩
  sub := fun {σ o x} z => by
    cases σ with
    | nil => exact .inl z
    | cons y τ =>
      rcases List.mem_append.mp z with z | z
      · exact .inl (List.mem_append_left _ z)
      · exact (h.sub z).imp (List.mem_append_right _) id
  nd := fun {σ o} n a => by
    cases σ with
    | nil => exact n
    | cons y τ =>
      obtain ⟨n1, n2, n3⟩ := List.nodup_append.mp n
      refine List.nodup_append.mpr ⟨n1, h.nd n2 fun D e z => a D e (List.mem_append_right _ z), fun x hx y' hy z => ?_⟩
      subst z
      rcases h.sub hy with hy | hy
      · exact n3 x hx x hy rfl
      · exact a x hy (List.mem_append_left _ hx)
/-- the list of one's own in slot i, written -/
structure ModS {Γ α : Type} (E : EV Γ) (i : Nat) (R : Rp α) (g : Γ → List α) (put : Γ → List α → Γ) : Prop where
  get : ∀ {p : Option Addr} {H0 F H : Hp} {σ : L2.St} {ρ : Γ}, E.r p H0 F H σ ρ → ∃ D vs, σ[i]? = some (some (.ref D)) ∧ H D = some (.lst vs) ∧ All2 (R.r F) vs (g ρ) ∧ D ∈ E.owns σ
  mod : ∀ {p : Option Addr} {H0 F H : Hp} {σ : L2.St} {ρ : Γ} {D : Addr} {vs : List V} {xs : List α}, E.r p H0 F H σ ρ → (E.owns σ).Nodup → σ[i]? = some (some (.ref D)) → All2 (R.r F) vs xs → E.r p H0 F (upd H D (.lst vs)) σ (put ρ xs)
theorem mod0 {Γ α : Type} {R : Rp α} {E : EV Γ} : ModS (eCons (sOwn R) E) 0 R (·.1) (fun ρ xs => (xs, ρ.2)) where
  get := fun ⟨o, τ, e, ⟨D, vs, e2, h, t, _⟩, _⟩ => ⟨D, vs, by rw [e, e2]; rfl, h, t, by rw [e, e2]; exact List.mem_cons_self⟩
  mod := fun {p H0 F H σ ρ D vs xs} ⟨o, τ, e, ⟨D', vs', e2, h, t, n1, n2, n3⟩, q⟩ n hi a => by
    subst e e2
    obtain rfl : D' = D := by
      have hi' : some (some (V.ref D')) = some (some (V.ref D)) := hi
      cases hi'; rfl
    have n2' : D' ∉ E.owns τ := (List.nodup_cons.mp n).1
    exact ⟨_, τ, rfl, ⟨D', vs, rfl, upd_same, a, n1, n2, n3⟩, E.upd n2' (.lst h) q⟩
theorem modS {Γ α β : Type} {R : Rp α} {T : SR β} {E : EV Γ} {i : Nat} {g : Γ → List α} {put : Γ → List α → Γ} (m : ModS E i R g put) : ModS (eCons T E) (i + 1) R (fun ρ => g ρ.2) (fun ρ xs => (ρ.1, put ρ.2 xs)) where
  get := fun ⟨o, τ, e, _, q⟩ => by
    obtain ⟨D, vs, h1, h2, h3, h4⟩ := m.get q
    exact ⟨D, vs, by rw [e]; simpa using h1, h2, h3, by rw [e]; exact List.mem_append_right _ h4⟩
  mod := fun {p H0 F H σ ρ D vs xs} ⟨o, τ, e, t, q⟩ n hi a => by
    subst e
    obtain ⟨n1, n2, n3⟩ := List.nodup_append.mp n
    have hi' : τ[i]? = some (some (.ref D)) := by simpa using hi
    obtain ⟨D', vs', h1, h2, h3, h4⟩ := m.get q
    rw [hi'] at h1
    obtain rfl : D = D' := by cases h1; rfl
    refine ⟨o, τ, rfl, T.upd (fun z => n3 D (by rw [z]; simp) D h4 rfl) (.lst h2) t, m.mod q n2 hi' a⟩
end PF

set_option Elab.async false
set_option linter.all false
set_option maxRecDepth 100000
set_option maxHeartbeats 4000000
namespace PF
open PySem PySem.Spec PyProof.Rows L2 SlX
/-! ### readings by plain programs -/
structure Md where
  Z : Hp → Er → Value → Option Addr → Prop
  XE : XK
/-- where nothing is raised -/
def md0 : Md := ⟨fun _ _ _ _ => True, fun _ _ _ => False⟩
def VP {α : Type} (k : Cn) (F H : Hp) (R : Rp α) (Q : VK) : α → Nat → Prop := fun a c' => ∀ v F' H', ExtX k.p F H F' H' → Wo k F' H' c' → R.r F' v a → Q v H'
def VN {α : Type} (k : Cn) (F H : Hp) (R : Rp α) (Q : VK) : List α → Nat → Prop := fun xs c' => ∀ D vs F' H', ExtX k.p F H F' H' → Wo k F' H' c' → H D = none → k.H0 D = none → H' D = some (.lst vs) → F' D = none → All2 (R.r F') vs xs → Q (.ref D) H'
def XP (μ : Md) (k : Cn) : Er → Prop := fun e => ∀ cls d F' H', ExtX k.p k.F0 k.H0 F' H' → μ.Z F' e cls d → μ.XE cls d H'
def AP {α : Type} (k : Cn) (F H : Hp) (S : RA α) (Q : List V → Hp → Prop) : α → Nat → Prop := fun a c' => ∀ vs F' H', ExtX k.p F H F' H' → Wo k F' H' c' → S.r F' vs a → Q vs H'
def BP (k : Cn) (F H : Hp) (Q : Bool → Hp → Prop) : Bool → Nat → Prop := fun b c' => ∀ F' H', ExtX k.p F H F' H' → Wo k F' H' c' → Q b H'
/-- a walked thing that gives xs -/
def Walks {α : Type} (J : It) (F1 : Hp) (R : Rp α) (xs : List α) : Prop := ∀ (i : Nat) (F' H' : Hp), Same F1 F' → Same F' H' →
  (∀ a, xs[i]? = some a → J.go i H' ∧ ∀ x H'', J.yld i H' x H'' → ∃ F'', ExtX none F' H' F'' H'' ∧ R.r F'' x a) ∧ (xs.length ≤ i → J.stop i H')
def IP {α : Type} (k : Cn) (F H : Hp) (R : Rp α) (W : It → Hp → Prop) : List α → Nat → Prop := fun xs c' => ∀ J F' H', ExtX k.p F H F' H' → Wo k F' H' c' → Walks J F' R xs → W J H'
section
variable {Γ : Type} {α β γ : Type} (μ : Md)
def SE (E : EV Γ) (R : Rp α) (te : TE) (m : Γ → M α) : Prop := ∀ (k : Cn) (F H : Hp) (σ : L2.St) (ρ : Γ) (c : Nat) (Q : VK), Wo k F H c → EI k E F H σ ρ → (m ρ).wp c (VP k F H R Q) (XP μ k) → te σ H Q
def SN (E : EV Γ) (R : Rp α) (te : TE) (m : Γ → M (List α)) : Prop := ∀ (k : Cn) (F H : Hp) (σ : L2.St) (ρ : Γ) (c : Nat) (Q : VK), Wo k F H c → EI k E F H σ ρ → (m ρ).wp c (VN k F H R Q) (XP μ k) → te σ H Q
def ST (E : EV Γ) (tt : TT) (m : Γ → M Bool) : Prop := ∀ (k : Cn) (F H : Hp) (σ : L2.St) (ρ : Γ) (c : Nat) (Q : Bool → Hp → Prop), Wo k F H c → EI k E F H σ ρ → (m ρ).wp c (BP k F H Q) (XP μ k) → tt σ H Q
def SA (E : EV Γ) (S : RA α) (ta : TA) (m : Γ → M α) : Prop := ∀ (k : Cn) (F H : Hp) (σ : L2.St) (ρ : Γ) (c : Nat) (Q : List V → Hp → Prop), Wo k F H c → EI k E F H σ ρ → (m ρ).wp c (AP k F H S Q) (XP μ k) → ta σ H Q
def SI (E : EV Γ) (R : Rp α) (wi : TI) (m : Γ → M (List α)) : Prop := ∀ (k : Cn) (F H : Hp) (σ : L2.St) (ρ : Γ) (c : Nat) (W : It → Hp → Prop), Wo k F H c → EI k E F H σ ρ → (m ρ).wp c (IP k F H R W) (XP μ k) → wi σ H W
/-- operators by values -/
def OpS (r : R2) (Ra : Rp α) (Rb : Rp β) (R : Rp γ) (mf : α → β → M γ) : Prop := ∀ (k : Cn) (F H : Hp) (c : Nat) (x y : V) (a : α) (b : β) (Q : VK), Wo k F H c → Ra.r F x a → Rb.r F y b → (mf a b).wp c (VP k F H R Q) (XP μ k) → r x y H Q
def OpN (r : R2) (Ra : Rp α) (Rb : Rp β) (R : Rp γ) (mf : α → β → M (List γ)) : Prop := ∀ (k : Cn) (F H : Hp) (c : Nat) (x y : V) (a : α) (b : β) (Q : VK), Wo k F H c → Ra.r F x a → Rb.r F y b → (mf a b).wp c (VN k F H R Q) (XP μ k) → r x y H Q
def UnS (r : V → Hp → VK → Prop) (Ra : Rp α) (R : Rp γ) (mf : α → M γ) : Prop := ∀ (k : Cn) (F H : Hp) (c : Nat) (x : V) (a : α) (Q : VK), Wo k F H c → Ra.r F x a → (mf a).wp c (VP k F H R Q) (XP μ k) → r x H Q
def CaS (r : List V → Hp → VK → Prop) (S : RA α) (R : Rp γ) (mf : α → M γ) : Prop := ∀ (k : Cn) (F H : Hp) (c : Nat) (vs : List V) (a : α) (Q : VK), Wo k F H c → S.r F vs a → (mf a).wp c (VP k F H R Q) (XP μ k) → r vs H Q
def CaN (r : List V → Hp → VK → Prop) (S : RA α) (R : Rp γ) (mf : α → M (List γ)) : Prop := ∀ (k : Cn) (F H : Hp) (c : Nat) (vs : List V) (a : α) (Q : VK), Wo k F H c → S.r F vs a → (mf a).wp c (VN k F H R Q) (XP μ k) → r vs H Q
end
/-- the list: what is a tracked list -/
def rLs {α : Type} (R : Rp α) : Rp (List α) :=
  ⟨fun F v xs => ∃ p vs, v = .ref p ∧ F p = some (.lst vs) ∧ All2 (R.r F) vs xs, fun s ⟨p, vs, e, h, t⟩ => ⟨p, vs, e, s _ _ h, t.imp fun _ _ g => R.st s g⟩⟩
section
variable {Γ Γ' : Type} {α β γ δ : Type} {μ : Md} {E : EV Γ} {Ra : Rp α} {Rb : Rp β} {R : Rp γ} {Rd : Rp δ}
theorem VP.ext {k : Cn} {F H F1 H1 : Hp} {Q : VK} {a : α} {c : Nat} (x : ExtX k.p F H F1 H1) (h : VP k F H Ra Q a c) : VP k F1 H1 Ra Q a c := fun v F' H' y w r => h v F' H' (x.trans y) w r
theorem VN.ext {k : Cn} {F H F1 H1 : Hp} {Q : VK} {a : List α} {c : Nat} (x : ExtX k.p F H F1 H1) (h : VN k F H Ra Q a c) : VN k F1 H1 Ra Q a c := fun D vs F' H' y w n n0 r f t => h D vs F' H' (x.trans y) w (by
  cases q : H D with
  | none => rfl
  | some o => exact absurd n (x.on D (by rw [q]; simp))) n0 r f t
theorem wp_imp {m : M α} {c : Nat} {P Q : α → Nat → Prop} {X : Er → Prop} (h : m.wp c P X) (f : ∀ a d, P a d → Q a d) : m.wp c Q X := m.mono c f (fun _ z => z) h
theorem Wo.h0 {k : Cn} {F H : Hp} {c : Nat} (w : Wo k F H c) {D : Addr} (n : H D = none) : k.H0 D = none := by
  cases q : k.H0 D with
  | none => rfl
  | some o => exact absurd n (w.ext.on D (by rw [q]; simp))
theorem Wo.np {k : Cn} {F H : Hp} {c : Nat} (w : Wo k F H c) {D : Addr} (n : k.H0 D = none) : k.p ≠ some D := fun e => (w.dice D e).2.1 n
/-- a thing of one's own is let go: it stays from now on -/
theorem Wo.fz {k : Cn} {F H : Hp} {c : Nat} (w : Wo k F H c) {D : Addr} {o : HO} (n : k.H0 D = none) (f : F D = none) (h : H D = some o) : Same F (upd F D o) ∧ Wo k (upd F D o) H c := by
  have s : Same F (upd F D o) := same_upd f
  have sub : Same (upd F D o) H := fun b u e => by
    by_cases z : b = D
    · subst z; rw [upd_same] at e; rw [h]; exact e
    · rw [upd_ne z] at e; exact w.sub _ _ e
  have h0 : ∀ b, k.H0 b ≠ none → b ≠ D := fun b nb z => by subst z; exact nb n
  exact ⟨s, sub, ⟨w.ext.fz.trans s, sub, w.ext.hp, fun b hb => by rw [upd_ne (h0 b hb)]; exact w.ext.old b hb, w.ext.on⟩, fun a e => by
    obtain ⟨q1, q2, q3⟩ := w.dice a e
    exact ⟨by rw [upd_ne (h0 a q2)]; exact q1, q2, q3⟩⟩
/-- what is one's own is let go -/
theorem VN.of {k : Cn} {F H : Hp} {Q : VK} {xs : List α} {c : Nat} (h : VP k F H (rLs Ra) Q xs c) : VN k F H Ra Q xs c := fun D vs F' H' x w n n0 r f t => by
  obtain ⟨s, w2⟩ := w.fz n0 f r
  exact h (.ref D) _ H' ⟨x.fz.trans s, w2.sub, x.hp, fun b hb => by
    rw [upd_ne (fun z => hb (by rw [z]; exact n))]; exact x.old b hb, x.on⟩ w2 ⟨D, vs, rfl, upd_same, t.imp fun _ _ g => Ra.st s g⟩
theorem SN.se {te : TE} {m : Γ → M (List α)} (h : SN μ E Ra te m) : SE μ E (rLs Ra) te m := fun k F H σ ρ c Q w e q => h k F H σ ρ c Q w e (wp_imp q fun _ _ z => VN.of z)
theorem OpN.os {r : R2} {mf : α → β → M (List γ)} (h : OpN μ r Ra Rb R mf) : OpS μ r Ra Rb (rLs R) mf := fun k F H c x y a b Q w p q z => h k F H c x y a b Q w p q (wp_imp z fun _ _ z => VN.of z)
theorem CaN.cs {r : List V → Hp → VK → Prop} {S : RA α} {mf : α → M (List γ)} (h : CaN μ r S R mf) : CaS μ r S (rLs R) mf := fun k F H c x a Q w p z => h k F H c x a Q w p (wp_imp z fun _ _ z => VN.of z)

/-! ### names, constants, operators -/
theorem e_var {i : Nat} {g : Γ → α} (h : GetS E i (sVal Ra) g) : SE μ E Ra (tVar i) fun ρ => .ret (g ρ) := fun k F H σ ρ c Q w e q => by
  obtain ⟨o, h1, v, rfl, r⟩ := h.get e.r
  exact ⟨v, h1, q v F H (ExtX.refl w.sub) w r⟩
theorem e_c {v : V} {a : α} (h : ∀ F, Ra.r F v a) : SE μ E Ra (tC v) fun _ => .ret a := fun k F H σ ρ c Q w e q => q v F H (ExtX.refl w.sub) w (h F)
theorem e_int {i : Int} : SE μ E rInt (tC (.int i)) fun _ => .ret i := e_c fun _ => rfl
theorem e_bl {b : Bool} : SE μ E rBl (tC (.bl b)) fun _ => .ret b := e_c fun _ => rfl
theorem e_str {x : Str} : SE μ E rStr (tC (.str x)) fun _ => .ret x := e_c fun _ => rfl
theorem e_non : SE μ E rNon (tC .non) fun _ => .ret () := e_c fun _ => rfl
theorem e_op {r : R2} {ta tb : TE} {ma : Γ → M α} {mb : Γ → M β} {mf : α → β → M γ} (ho : OpS μ r Ra Rb R mf) (ha : SE μ E Ra ta ma) (hb : SE μ E Rb tb mb) :
    SE μ E R (tOp r ta tb) fun ρ => (ma ρ).bind fun a => (mb ρ).bind fun b => mf a b := fun k F H σ ρ c Q w e h =>
  ha k F H σ ρ c _ w e (wp_imp h fun a c1 q v F1 H1 x1 w1 r1 => hb k F1 H1 σ ρ c1 _ w1 (e.step x1) (wp_imp q fun b c2 q v2 F2 H2 x2 w2 r2 =>
    ho k F2 H2 c2 v v2 a b Q w2 (Ra.st x2.fz r1) r2 (wp_imp q fun _ _ z => VP.ext (x1.trans x2) z)))
theorem n_op {r : R2} {ta tb : TE} {ma : Γ → M α} {mb : Γ → M β} {mf : α → β → M (List γ)} (ho : OpN μ r Ra Rb R mf) (ha : SE μ E Ra ta ma) (hb : SE μ E Rb tb mb) :
    SN μ E R (tOp r ta tb) fun ρ => (ma ρ).bind fun a => (mb ρ).bind fun b => mf a b := fun k F H σ ρ c Q w e h =>
  ha k F H σ ρ c _ w e (wp_imp h fun a c1 q v F1 H1 x1 w1 r1 => hb k F1 H1 σ ρ c1 _ w1 (e.step x1) (wp_imp q fun b c2 q v2 F2 H2 x2 w2 r2 =>
    ho k F2 H2 c2 v v2 a b Q w2 (Ra.st x2.fz r1) r2 (wp_imp q fun _ _ z => VN.ext (x1.trans x2) z)))
theorem e_un {r : V → Hp → VK → Prop} {ta : TE} {ma : Γ → M α} {mf : α → M γ} (ho : UnS μ r Ra R mf) (ha : SE μ E Ra ta ma) :
    SE μ E R (tUn r ta) fun ρ => (ma ρ).bind mf := fun k F H σ ρ c Q w e h =>
  ha k F H σ ρ c _ w e (wp_imp h fun a c1 q v F1 H1 x1 w1 r1 => ho k F1 H1 c1 v a Q w1 r1 (wp_imp q fun _ _ z => VP.ext x1 z))
theorem o_ii {g : Int → Int → V} {f : Int → Int → Int} (h : ∀ i j, g i j = .int (f i j)) : OpS μ (rI0 g) rInt rInt rInt fun i j => .ret (f i j) := fun k F H c x y i j Q w hx hy q => ⟨i, j, hx, hy, q _ F H (ExtX.refl w.sub) w (h i j)⟩
theorem o_ib {g : Int → Int → V} {f : Int → Int → Bool} (h : ∀ i j, g i j = .bl (f i j)) : OpS μ (rI0 g) rInt rInt rBl fun i j => .ret (f i j) := fun k F H c x y i j Q w hx hy q => ⟨i, j, hx, hy, q _ F H (ExtX.refl w.sub) w (h i j)⟩
theorem o_iiC {C : Int → Int → Prop} {g : Int → Int → V} {f : Int → Int → Int} (h : ∀ i j, g i j = .int (f i j)) : OpS μ (rI C g) rInt rInt rInt fun i j => .need (C i j) (.ret (f i j)) := fun k F H c x y i j Q w hx hy q => ⟨i, j, hx, hy, q.1, q.2 _ F H (ExtX.refl w.sub) w (h i j)⟩
theorem u_ii {g : Int → V} {f : Int → Int} (h : ∀ i, g i = .int (f i)) : UnS μ (rU g) rInt rInt fun i => .ret (f i) := fun k F H c x i Q w hx q => ⟨i, hx, q _ F H (ExtX.refl w.sub) w (h i)⟩
/-- == of plain values -/
structure ScR (R : Rp α) [DecidableEq α] : Prop where
  scal : ∀ {F F' : Hp} {x y : V} {a b : α}, R.r F x a → R.r F' y b → L2.scal x y = true ∧ decide (x = y) = decide (a = b)
theorem sc_int : ScR rInt := ⟨fun {_ _ _ _ a b} h k => by subst h k; exact ⟨rfl, by by_cases c : a = b; (· rw [c]; simp); (· rw [decide_eq_false c, decide_eq_false fun z => c (V.int.inj z)])⟩⟩
theorem sc_str : ScR rStr := ⟨fun {_ _ _ _ a b} h k => by subst h k; exact ⟨rfl, by by_cases c : a = b; (· rw [c]; simp); (· rw [decide_eq_false c, decide_eq_false fun z => c (V.str.inj z)])⟩⟩
theorem sc_bl : ScR rBl := ⟨fun {_ _ _ _ a b} h k => by subst h k; exact ⟨rfl, by by_cases c : a = b; (· rw [c]; simp); (· rw [decide_eq_false c, decide_eq_false fun z => c (V.bl.inj z)])⟩⟩
theorem o_eq [DecidableEq α] (s : ScR Ra) : OpS μ rEq Ra Ra rBl fun a b => .ret (decide (a = b)) := fun k F H c x y a b Q w hx hy q => by
  obtain ⟨h1, h2⟩ := s.scal hx hy
  exact ⟨h1, q _ F H (ExtX.refl w.sub) w (by rw [h2]; rfl)⟩
theorem o_ne [DecidableEq α] (s : ScR Ra) : OpS μ rNe Ra Ra rBl fun a b => .ret (!decide (a = b)) := fun k F H c x y a b Q w hx hy q => by
  obtain ⟨h1, h2⟩ := s.scal hx hy
  exact ⟨h1, q _ F H (ExtX.refl w.sub) w (by rw [h2]; rfl)⟩
/-- == of data, to any depth -/
structure DpR (K : PySem.W.Frag) (R : Rp α) (d : α → PyData) (n : Nat) : Prop where
  dp : ∀ {F : Hp} {v : V} {a : α}, R.r F v a → Dp K F v (d a)
  deep : ∀ a, (d a).depth ≤ n
theorem shaped_of {d : PyData} {n : Nat} (h : d.depth ≤ n) (hn : n ≤ 64) (l : d.canLay0 = true) : SeqAt.shaped d = true := by
  unfold SeqAt.shaped
  rw [l, decide_eq_true (Nat.le_trans h hn)]; rfl
mutual
theorem dp_same {K : PySem.W.Frag} {F H : Hp} (s : Same F H) : ∀ (d : PyData) (v : V), Dp K F v d → Dp K H v d
  | _, _, .non => .non
  | _, _, .bl b => .bl b
  | _, _, .int i => .int i
  | _, _, .str x => .str x
  | _, _, .lst h t => .lst (s.seq h) (dps_same s _ _ t)
  | _, _, .tup h t => .tup (same_seqT s h) (dps_same s _ _ t)
theorem dps_same {K : PySem.W.Frag} {F H : Hp} (s : Same F H) : ∀ (ds : List PyData) (vs : List V), DpAll K F vs ds → DpAll K H vs ds
  | _, _, .nil => .nil
  | _, _, .cons h t => .cons (dp_same s _ _ h) (dps_same s _ _ t)
end
theorem Dp.same {K : PySem.W.Frag} {F H : Hp} {v : V} {d : PyData} (s : Same F H) (h : Dp K F v d) : Dp K H v d := dp_same s d v h
theorem o_eqD {K : PySem.W.Frag} {da : α → PyData} {db : β → PyData} {i j : Nat} (hA : DpR K Ra da i) (hB : DpR K Rb db j) (hi : i ≤ 64 := by decide) (hj : j ≤ 64 := by decide) : OpS μ (rEqD K) Ra Rb rBl fun a b => .need ((da a).canLay0 = true ∧ (db b).canLay0 = true) (.ret (PyData.eqv (da a) (db b))) := fun k F H c x y a b Q w hx hy q =>
  ⟨_, _, Dp.same w.sub (hA.dp hx), Dp.same w.sub (hB.dp hy), shaped_of (hA.deep a) hi q.1.1, shaped_of (hB.deep b) hj q.1.2, q.2 _ F H (ExtX.refl w.sub) w rfl⟩
theorem o_neD {K : PySem.W.Frag} {da : α → PyData} {db : β → PyData} {i j : Nat} (hA : DpR K Ra da i) (hB : DpR K Rb db j) (hi : i ≤ 64 := by decide) (hj : j ≤ 64 := by decide) : OpS μ (rNeD K) Ra Rb rBl fun a b => .need ((da a).canLay0 = true ∧ (db b).canLay0 = true) (.ret (!PyData.eqv (da a) (db b))) := fun k F H c x y a b Q w hx hy q =>
  ⟨_, _, Dp.same w.sub (hA.dp hx), Dp.same w.sub (hB.dp hy), shaped_of (hA.deep a) hi q.1.1, shaped_of (hB.deep b) hj q.1.2, q.2 _ F H (ExtX.refl w.sub) w rfl⟩
/-! ### tests -/
theorem t_of {te : TE} {m : Γ → M Bool} (h : SE μ E rBl te m) : ST μ E (tTest te) m := fun k F H σ ρ c Q w e q => h k F H σ ρ c _ w e (wp_imp q fun b _ z v F' H' x w' r => ⟨b, r, z F' H' x w'⟩)
theorem t_b {te : TE} {m : Γ → M Bool} (h : SE μ E rBl te m) : ST μ E (tB te) m := fun k F H σ ρ c Q w e q => h k F H σ ρ c _ w e (wp_imp q fun b _ z v F' H' x w' r => ⟨b, r, z F' H' x w'⟩)
theorem BP.ext {k : Cn} {F H F1 H1 : Hp} {Q : Bool → Hp → Prop} {b : Bool} {c : Nat} (x : ExtX k.p F H F1 H1) (h : BP k F H Q b c) : BP k F1 H1 Q b c := fun F' H' y w => h F' H' (x.trans y) w
theorem t_not {tt : TT} {m : Γ → M Bool} (h : ST μ E tt m) : ST μ E (tNot tt) fun ρ => (m ρ).bind fun b => .ret (!b) := fun k F H σ ρ c Q w e q => h k F H σ ρ c _ w e (wp_imp q fun _ _ z F' H' x w' => z F' H' x w')
theorem t_and {tt tu : TT} {m n : Γ → M Bool} (h : ST μ E tt m) (h' : ST μ E tu n) : ST μ E (tAnd tt tu) fun ρ => (m ρ).bind fun b => .ifb b (n ρ) (.ret false) := fun k F H σ ρ c Q w e q => h k F H σ ρ c _ w e (wp_imp q fun b c1 z F' H' x w' => by
  cases b with
  | true => exact h' k F' H' σ ρ c1 Q w' (e.step x) (wp_imp z fun _ _ z => BP.ext x z)
  | false => exact z F' H' x w')
theorem t_or {tt tu : TT} {m n : Γ → M Bool} (h : ST μ E tt m) (h' : ST μ E tu n) : ST μ E (tOr tt tu) fun ρ => (m ρ).bind fun b => .ifb b (.ret true) (n ρ) := fun k F H σ ρ c Q w e q => h k F H σ ρ c _ w e (wp_imp q fun b c1 z F' H' x w' => by
  cases b with
  | false => exact h' k F' H' σ ρ c1 Q w' (e.step x) (wp_imp z fun _ _ z => BP.ext x z)
  | true => exact z F' H' x w')
theorem e_if {tt : TT} {ta tb : TE} {mt : Γ → M Bool} {ma mb : Γ → M α} (ht : ST μ E tt mt) (ha : SE μ E Ra ta ma) (hb : SE μ E Ra tb mb) : SE μ E Ra (tIf tt ta tb) fun ρ => (mt ρ).bind fun b => .ifb b (ma ρ) (mb ρ) := fun k F H σ ρ c Q w e q =>
  ht k F H σ ρ c _ w e (wp_imp q fun b c1 z F' H' x w' => by
    cases b with
    | true => exact ha k F' H' σ ρ c1 Q w' (e.step x) (wp_imp z fun _ _ z => VP.ext x z)
    | false => exact hb k F' H' σ ρ c1 Q w' (e.step x) (wp_imp z fun _ _ z => VP.ext x z))
theorem n_if {tt : TT} {ta tb : TE} {mt : Γ → M Bool} {ma mb : Γ → M (List α)} (ht : ST μ E tt mt) (ha : SN μ E Ra ta ma) (hb : SN μ E Ra tb mb) : SN μ E Ra (tIf tt ta tb) fun ρ => (mt ρ).bind fun b => .ifb b (ma ρ) (mb ρ) := fun k F H σ ρ c Q w e q =>
  ht k F H σ ρ c _ w e (wp_imp q fun b c1 z F' H' x w' => by
    cases b with
    | true => exact ha k F' H' σ ρ c1 Q w' (e.step x) (wp_imp z fun _ _ z => VN.ext x z)
    | false => exact hb k F' H' σ ρ c1 Q w' (e.step x) (wp_imp z fun _ _ z => VN.ext x z))
theorem e_and {ta tb : TE} {m n : Γ → M Bool} (h : SE μ E rBl ta m) (h' : SE μ E rBl tb n) : SE μ E rBl (tAndV ta tb) fun ρ => (m ρ).bind fun b => .ifb b (n ρ) (.ret false) := fun k F H σ ρ c Q w e q => h k F H σ ρ c _ w e (wp_imp q fun b c1 z v F' H' x w' r => by
  refine ⟨b, r, ?_⟩
  cases b with
  | true => exact h' k F' H' σ ρ c1 Q w' (e.step x) (wp_imp z fun _ _ z => VP.ext x z)
  | false => exact z _ F' H' x w' rfl)
theorem e_or {ta tb : TE} {m n : Γ → M Bool} (h : SE μ E rBl ta m) (h' : SE μ E rBl tb n) : SE μ E rBl (tOrV ta tb) fun ρ => (m ρ).bind fun b => .ifb b (.ret true) (n ρ) := fun k F H σ ρ c Q w e q => h k F H σ ρ c _ w e (wp_imp q fun b c1 z v F' H' x w' r => by
  refine ⟨b, r, ?_⟩
  cases b with
  | false => exact h' k F' H' σ ρ c1 Q w' (e.step x) (wp_imp z fun _ _ z => VP.ext x z)
  | true => exact z _ F' H' x w' rfl)
theorem e_not {ta : TE} {m : Γ → M Bool} (h : SE μ E rBl ta m) : SE μ E rBl (tNotV ta) fun ρ => (m ρ).bind fun b => .ret (!b) := fun k F H σ ρ c Q w e q => h k F H σ ρ c _ w e (wp_imp q fun b c1 z v F' H' x w' r => ⟨b, r, z _ F' H' x w' rfl⟩)
theorem e_chain {r r' : R2} {ta tb tc : TE} {ma : Γ → M α} {mb : Γ → M β} {mc : Γ → M γ} {f : α → β → M Bool} {f' : β → γ → M Bool} (ho : OpS μ r Ra Rb rBl f) (ho' : OpS μ r' Rb R rBl f') (ha : SE μ E Ra ta ma) (hb : SE μ E Rb tb mb) (hc : SE μ E R tc mc) :
    SE μ E rBl (tChain r r' ta tb tc) fun ρ => (ma ρ).bind fun a => (mb ρ).bind fun b => (f a b).bind fun k => .ifb k ((mc ρ).bind fun d => f' b d) (.ret false) := fun k F H σ ρ c Q w e h =>
  ha k F H σ ρ c _ w e (wp_imp h fun a c1 q v F1 H1 x1 w1 r1 => hb k F1 H1 σ ρ c1 _ w1 (e.step x1) (wp_imp q fun b c2 q v2 F2 H2 x2 w2 r2 =>
    ho k F2 H2 c2 v v2 a b _ w2 (Ra.st x2.fz r1) r2 (wp_imp q fun t c3 q v3 F3 H3 x3 w3 r3 => by
      refine ⟨t, r3, ?_⟩
      have x13 := (x1.trans x2).trans x3
      cases t with
      | true => exact hc k F3 H3 σ ρ c3 _ w3 (e.step x13) (wp_imp q fun d c4 q v4 F4 H4 x4 w4 r4 => ho' k F4 H4 c4 v2 v4 b d Q w4 (Rb.st (x3.fz.trans x4.fz) r2) r4 (wp_imp q fun _ _ z => VP.ext (x13.trans x4) z))
      | false => exact q _ F3 H3 x13 w3 rfl)))
theorem t_chain {r r' : R2} {ta tb tc : TE} {ma : Γ → M α} {mb : Γ → M β} {mc : Γ → M γ} {f : α → β → M Bool} {f' : β → γ → M Bool} (ho : OpS μ r Ra Rb rBl f) (ho' : OpS μ r' Rb R rBl f') (ha : SE μ E Ra ta ma) (hb : SE μ E Rb tb mb) (hc : SE μ E R tc mc) :
    ST μ E (tTest (tChain r r' ta tb tc)) fun ρ => (ma ρ).bind fun a => (mb ρ).bind fun b => (f a b).bind fun k => .ifb k ((mc ρ).bind fun d => f' b d) (.ret false) := t_of (e_chain ho ho' ha hb hc)
/-! ### rows of values, tuples, lists -/
theorem AP.ext {S : RA α} {k : Cn} {F H F1 H1 : Hp} {Q : List V → Hp → Prop} {b : α} {c : Nat} (x : ExtX k.p F H F1 H1) (h : AP k F H S Q b c) : AP k F1 H1 S Q b c := fun vs F' H' y w r => h vs F' H' (x.trans y) w r
theorem a_nil : SA μ E aNil tNil fun _ => .ret () := fun k F H σ ρ c Q w e q => q [] F H (ExtX.refl w.sub) w rfl
theorem a_cons {S : RA β} {ta : TE} {tb : TA} {ma : Γ → M α} {mb : Γ → M β} (ha : SE μ E Ra ta ma) (hb : SA μ E S tb mb) : SA μ E (aCons Ra S) (tCons ta tb) fun ρ => (ma ρ).bind fun a => (mb ρ).bind fun b => .ret (a, b) := fun k F H σ ρ c Q w e h =>
  ha k F H σ ρ c _ w e (wp_imp h fun a c1 q v F1 H1 x1 w1 r1 => hb k F1 H1 σ ρ c1 _ w1 (e.step x1) (wp_imp q fun b c2 q vs F2 H2 x2 w2 r2 => q _ F2 H2 (x1.trans x2) w2 ⟨v, vs, rfl, Ra.st x2.fz r1, r2⟩))
theorem le_n (n : Nat) (h : n ≤ 1000 := by decide) : n ≤ sizeLine := by rw [sizeLine_eq]; omega
theorem e_tup {K : PySem.W.Frag} {S : RA α} {ta : TA} {ma : Γ → M α} (ha : SA μ E S ta ma) (hn : S.n ≤ sizeLine) : SE μ E (rTx K S) (tTup ta) ma := fun k F H σ ρ c Q w e h =>
  ha k F H σ ρ c _ w e (wp_imp h fun a c1 q vs F1 H1 x1 w1 r1 => ⟨by rw [S.len r1]; exact hn, fun p n => by
    have x2 := ExtX.new (p := k.p) w1.sub n (.tup vs)
    exact q _ _ _ (x1.trans x2) (w1.new n _) ⟨p, vs, rfl, .of upd_same, S.st x2.fz r1⟩⟩)
/-- rows of one kind: as a list -/
structure HomR (R : Rp α) (S : RA β) (f : β → List α) : Prop where
  all : ∀ {F : Hp} {vs : List V} {b : β}, S.r F vs b → All2 (R.r F) vs (f b)
theorem hom_nil : HomR Ra aNil fun _ => [] := ⟨fun h => by subst h; exact .nil⟩
theorem hom_cons {S : RA β} {f : β → List α} (h : HomR Ra S f) : HomR Ra (aCons Ra S) fun b => b.1 :: f b.2 := ⟨fun ⟨v, ws, e, r, t⟩ => by subst e; exact .cons r (h.all t)⟩
theorem n_lst {S : RA β} {f : β → List α} {ta : TA} {ma : Γ → M β} (ho : HomR Ra S f) (ha : SA μ E S ta ma) (hn : S.n ≤ sizeLine) : SN μ E Ra (tLst ta) fun ρ => (ma ρ).bind fun b => .ret (f b) := fun k F H σ ρ c Q w e h =>
  ha k F H σ ρ c _ w e (wp_imp h fun a c1 q vs F1 H1 x1 w1 r1 => ⟨by rw [S.len r1]; exact hn, fun p n => by
    have x2 := ExtX.own (p := k.p) w1.sub n (.lst vs)
    have nH : H p = none := by
      cases z : H p with
      | none => rfl
      | some o => exact absurd n (x1.on p (by rw [z]; simp))
    exact q p vs _ _ (x1.trans x2) (w1.own n _) nH (w.h0 nH) upd_same (w1.sub.free n) (ho.all r1)⟩)
/-- a tuple of one kind -/
theorem e_tupH {K : PySem.W.Frag} {S : RA β} {f : β → List α} {ta : TA} {ma : Γ → M β} (ho : HomR Ra S f) (ha : SA μ E S ta ma) (hn : S.n ≤ sizeLine) : SE μ E (rTup K Ra) (tTup ta) fun ρ => (ma ρ).bind fun b => .ret (f b) := fun k F H σ ρ c Q w e h =>
  ha k F H σ ρ c _ w e (wp_imp h fun a c1 q vs F1 H1 x1 w1 r1 => ⟨by rw [S.len r1]; exact hn, fun p n => by
    have x2 := ExtX.new (p := k.p) w1.sub n (.tup vs)
    exact q _ _ _ (x1.trans x2) (w1.new n _) ⟨p, vs, rfl, .of upd_same, (ho.all r1).imp fun _ _ g => Ra.st x2.fz g⟩⟩)
theorem sql_same {K : PySem.W.Frag} {F : Hp} {p : Addr} {vs : List V} (h : F p = some (.lst vs)) : SqL K F p vs := .of h
/-- xs[i] -/
theorem o_ixL {K : PySem.W.Frag} : OpS μ (rIxL K) (rLs Ra) rInt Ra fun xs i => .the (atI xs i) := fun k F H c x y xs i Q w ⟨p, vs, ex, hp, al⟩ hy ⟨a, ea, q⟩ => by
  subst ex
  obtain ⟨v, hv, r⟩ : ∃ v, atI vs i = some v ∧ Ra.r F v a := by
    unfold atI at ea ⊢
    rw [al.len]
    cases z : ixN xs.length i with
    | none => rw [z] at ea; cases ea
    | some j => rw [z] at ea; exact al.get ea
  exact ⟨p, vs, i, v, rfl, hy, .of (w.sub _ _ hp), hv, q v F H (ExtX.refl w.sub) w r⟩
theorem o_ixT {K : PySem.W.Frag} : OpS μ (rIxT K) (rTup K Ra) rInt Ra fun xs i => .the (atI xs i) := fun k F H c x y xs i Q w ⟨p, vs, ex, hp, al⟩ hy ⟨a, ea, q⟩ => by
  subst ex
  obtain ⟨v, hv, r⟩ : ∃ v, atI vs i = some v ∧ Ra.r F v a := by
    unfold atI at ea ⊢
    rw [al.len]
    cases z : ixN xs.length i with
    | none => rw [z] at ea; cases ea
    | some j => rw [z] at ea; exact al.get ea
  exact ⟨p, vs, i, v, rfl, hy, same_seqT w.sub hp, hv, q v F H (ExtX.refl w.sub) w r⟩
/-- a place in a row of several kinds -/
structure RGet (S : RA α) (i : Nat) (R : Rp β) (g : α → β) : Prop where
  get : ∀ {F : Hp} {vs : List V} {a : α}, S.r F vs a → ∃ v, vs[i]? = some v ∧ R.r F v (g a)
theorem rget0 {S : RA β} : RGet (aCons Ra S) 0 Ra (·.1) := ⟨fun ⟨v, ws, e, r, _⟩ => ⟨v, by rw [e]; rfl, r⟩⟩
theorem rgetS {S : RA β} {i : Nat} {R : Rp γ} {g : β → γ} (h : RGet S i R g) : RGet (aCons Ra S) (i + 1) R (fun a => g a.2) := ⟨fun ⟨v, ws, e, _, t⟩ => by obtain ⟨u, q, r⟩ := h.get t; exact ⟨u, by rw [e]; simpa using q, r⟩⟩
theorem e_ixX {K : PySem.W.Frag} {S : RA α} {i : Nat} {g : α → β} {ta : TE} {ma : Γ → M α} (hg : RGet S i Rb g) (ha : SE μ E (rTx K S) ta ma) : SE μ E Rb (tOp (rIxT K) ta (tC (.int (i : Int)))) fun ρ => (ma ρ).bind fun a => .ret (g a) := fun k F H σ ρ c Q w e h =>
  ha k F H σ ρ c _ w e (wp_imp h fun a c1 q v F1 H1 x1 w1 ⟨p, vs, ex, hp, r⟩ => by
    obtain ⟨u, hu, ru⟩ := hg.get r
    exact ⟨p, vs, _, u, ex, rfl, same_seqT w1.sub hp, atI_nat hu, q u F1 H1 x1 w1 ru⟩)
/-! ### calls -/
theorem e_ca {r : List V → Hp → VK → Prop} {S : RA α} {ta : TA} {ma : Γ → M α} {mf : α → M γ} (hc : CaS μ r S R mf) (ha : SA μ E S ta ma) : SE μ E R (tCB r ta) fun ρ => (ma ρ).bind mf := fun k F H σ ρ c Q w e h =>
  ha k F H σ ρ c _ w e (wp_imp h fun a c1 q vs F1 H1 x1 w1 r1 => hc k F1 H1 c1 vs a Q w1 r1 (wp_imp q fun _ _ z => VP.ext x1 z))
theorem n_ca {r : List V → Hp → VK → Prop} {S : RA α} {ta : TA} {ma : Γ → M α} {mf : α → M (List γ)} (hc : CaN μ r S R mf) (ha : SA μ E S ta ma) : SN μ E R (tCB r ta) fun ρ => (ma ρ).bind mf := fun k F H σ ρ c Q w e h =>
  ha k F H σ ρ c _ w e (wp_imp h fun a c1 q vs F1 H1 x1 w1 r1 => hc k F1 H1 c1 vs a Q w1 r1 (wp_imp q fun _ _ z => VN.ext x1 z))
/-- the promise: as the plain program m says; nothing is raised -/
def spOf (S : RA α) (R : Rp β) (m : α → M β) : Sp := fun vs H Q _ => ∃ F a, Same F H ∧ S.r F vs a ∧
  (m a).wp 0 (fun b _ => ∀ v F' H', ExtX none F H F' H' → R.r F' v b → Q v H') (fun _ => False)
/-- the same of a def whose first parameter are the dice -/
def spOfD (S : RA α) (R : Rp β) (m : α → M β) : Sp := fun vs H Q _ => ∃ F p ws a c, vs = .ref p :: ws ∧ Same F H ∧ F p = none ∧ Dice p H c ∧ S.r F ws a ∧
  (m a).wp c (fun b c' => ∀ v F' H', ExtX (some p) F H F' H' → F' p = none → Dice p H' c' → R.r F' v b → Q v H') (fun _ => False)
theorem XP.no {k : Cn} {F H : Hp} {c : Nat} (w : Wo k F H c) {e : Er} (h : XP md0 k e) : False := h .none none F H w.ext trivial
theorem e_call {S : RA α} {ta : TA} {ma : Γ → M α} {m : α → M γ} (ha : SA md0 E S ta ma) : SE md0 E R (tCall (spOf S R m) [] E0 ta) fun ρ => (ma ρ).bind fun a => (m a).still := fun k F H σ ρ c Q w e h =>
  ha k F H σ ρ c _ w e (wp_imp h fun a c1 q vs F1 H1 x1 w1 r1 => by
    show spOf S R m (vs ++ []) H1 Q E0
    rw [List.append_nil]
    exact ⟨F1, a, w1.sub, r1, (m a).mono 0 (fun b _ z v F' H' x r => z v F' H' (x1.trans (w1.call x).1) (w1.call x).2 r) (fun _ z => XP.no w1 z) q⟩)
theorem Wo.callD {k : Cn} {F H F' H' : Hp} {c c' : Nat} {p : Addr} (w : Wo k F H c) (e : k.p = some p) (x : ExtX (some p) F H F' H') (f : F' p = none) (d : Dice p H' c') : ExtX k.p F H F' H' ∧ Wo k F' H' c' := by
  rw [← e] at x
  refine ⟨x, x.sub, w.ext.trans x, fun a ea => ?_⟩
  obtain rfl : p = a := Option.some.inj (e.symm.trans ea)
  exact ⟨f, (w.dice p e).2.1, d⟩
theorem e_callD {S : RA α} {ta : TA} {ma : Γ → M α} {m : α → M γ} {i : Nat} {g : Γ → Unit} (hi : GetS E i sDice g) (ha : SA md0 E S ta ma) : SE md0 E R (tCall (spOfD S R m) [] E0 (tCons (tVar i) ta)) fun ρ => (ma ρ).bind m := fun k F H σ ρ c Q w e h => by
  obtain ⟨o, h1, p, rfl, hp⟩ := hi.get e.r
  refine ⟨.ref p, h1, ha k F H σ ρ c _ w e (wp_imp h fun a c1 q vs F1 H1 x1 w1 r1 => ?_)⟩
  show spOfD S R m ((.ref p :: vs) ++ []) H1 Q E0
  rw [List.append_nil]
  obtain ⟨d1, _, d2⟩ := w1.dice p hp
  exact ⟨F1, p, vs, a, c1, rfl, w1.sub, d1, d2, r1, (m a).mono c1 (fun b c' z v F' H' x f d r => z v F' H' (x1.trans (w1.callD hp x f d).1) (w1.callD hp x f d).2 r)
    (fun _ z => XP.no w1 z) q⟩
end
end PF

set_option Elab.async false
set_option linter.all false
set_option maxRecDepth 100000
set_option maxHeartbeats 4000000
namespace PF
open PySem PySem.Spec PyProof.Rows L2 SlX
/-! ### statements -/
inductive Ct (Γ Δ β : Type) where
  | nx (ρ : Γ)
  | rt (b : β)
  | bk (d : Δ)
  | ct (d : Δ)
namespace M
variable {Γ Γ' Δ α β : Type}
def thnK (f : Γ → M (Ct Γ' Δ β)) : Ct Γ Δ β → M (Ct Γ' Δ β)
  | .nx ρ => f ρ
  | .rt b => .ret (.rt b)
  | .bk d => .ret (.bk d)
  | .ct d => .ret (.ct d)
def thn (m : M (Ct Γ Δ β)) (f : Γ → M (Ct Γ' Δ β)) : M (Ct Γ' Δ β) := m.bind (thnK f)
def forK (f : Γ → M (Ct Γ Δ β)) : Ct Γ Γ β → M (Ct Γ Δ β)
  | .nx ρ => f ρ
  | .ct ρ => f ρ
  | .bk ρ => .ret (.nx ρ)
  | .rt b => .ret (.rt b)
def forM0 : List α → (α → Γ → M (Ct Γ Γ β)) → Γ → M (Ct Γ Δ β)
  | [], _, ρ => .ret (.nx ρ)
  | x :: xs, f, ρ => (f x ρ).bind (forK fun ρ' => forM0 xs f ρ')
theorem forM_ex {Γ Δ α β : Type} : ∃ g : List α → (α → Γ → M (Ct Γ Γ β)) → Γ → M (Ct Γ Δ β), (∀ f ρ, g [] f ρ = .ret (.nx ρ)) ∧ ∀ x xs f ρ, g (x :: xs) f ρ = (f x ρ).bind (forK fun ρ' => g xs f ρ') := ⟨forM0, fun _ _ => rfl, fun _ _ _ _ => rfl⟩
/-- not to be reckoned by the kernel -/
noncomputable def forM : List α → (α → Γ → M (Ct Γ Γ β)) → Γ → M (Ct Γ Δ β) := Classical.choose forM_ex
theorem forM_nil {f : α → Γ → M (Ct Γ Γ β)} {ρ : Γ} : forM (Δ := Δ) [] f ρ = .ret (.nx ρ) := (Classical.choose_spec (forM_ex (Γ := Γ) (Δ := Δ) (α := α) (β := β))).1 f ρ
theorem forM_cons {x : α} {xs : List α} {f : α → Γ → M (Ct Γ Γ β)} {ρ : Γ} : forM (Δ := Δ) (x :: xs) f ρ = (f x ρ).bind (forK fun ρ' => forM xs f ρ') := (Classical.choose_spec (forM_ex (Γ := Γ) (Δ := Δ) (α := α) (β := β))).2 x xs f ρ
def none {α : Type} : M α := ⟨fun _ _ _ => False, fun _ _ _ _ _ _ _ k => k⟩
def whileN (t : Γ → M Bool) (f : Γ → M (Ct Γ Γ β)) : Nat → Γ → M (Ct Γ Δ β)
  | 0, _ => M.none
  | n + 1, ρ => (t ρ).bind fun b => .ifb b ((f ρ).bind (forK fun ρ' => whileN t f n ρ')) (.ret (.nx ρ))
def whileM (t : Γ → M Bool) (f : Γ → M (Ct Γ Γ β)) (ρ : Γ) : M (Ct Γ Δ β) := ⟨fun c Q X => ∃ n, (whileN (Δ := Δ) t f n ρ).wp c Q X, fun c _ _ _ _ h x ⟨n, k⟩ => ⟨n, (whileN t f n ρ).mono c h x k⟩⟩
def lcM0 : List α → (α → M (Option β)) → M (List β)
  | [], _ => .ret []
  | x :: xs, f => (f x).bind fun o => (lcM0 xs f).bind fun ys => .ret (o.toList ++ ys)
theorem lcM_ex {α β : Type} : ∃ g : List α → (α → M (Option β)) → M (List β), (∀ f, g [] f = .ret []) ∧ ∀ x xs f, g (x :: xs) f = (f x).bind fun o => (g xs f).bind fun ys => .ret (o.toList ++ ys) := ⟨lcM0, fun _ => rfl, fun _ _ _ => rfl⟩
noncomputable def lcM : List α → (α → M (Option β)) → M (List β) := Classical.choose lcM_ex
theorem lcM_nil {f : α → M (Option β)} : lcM [] f = .ret [] := (Classical.choose_spec (lcM_ex (α := α) (β := β))).1 f
theorem lcM_cons {x : α} {xs : List α} {f : α → M (Option β)} : lcM (x :: xs) f = (f x).bind fun o => (lcM xs f).bind fun ys => .ret (o.toList ++ ys) := (Classical.choose_spec (lcM_ex (α := α) (β := β))).2 x xs f
def finK : Ct Γ Unit β → M β
  | .rt b => .ret b
  | _ => M.none
def finNK : Ct Γ Unit Unit → M Unit
  | .rt b => .ret b
  | .nx _ => .ret ()
  | _ => M.none
/-- a def's value -/
def fin (m : M (Ct Γ Unit β)) : M β := m.bind finK
/-- .. of a def that gives None -/
def finN (m : M (Ct Γ Unit Unit)) : M Unit := m.bind finNK
end M
def SP {Γ Δ β : Type} (k : Cn) (F0 : Hp) (E' : EV Γ) (El : EV Δ) (R : Rp β) (D : Ends) : Ct Γ Δ β → Nat → Prop := fun t c' => match t with
  | .nx ρ => ∀ F H σ, Same F0 F → Wo k F H c' → EI k E' F H σ ρ → D.nx σ H
  | .rt b => ∀ v F H, Wo k F H c' → R.r F v b → D.rt v H
  | .bk d => ∀ F H σ, Same F0 F → Wo k F H c' → EI k El F H σ d → D.bk σ H
  | .ct d => ∀ F H σ, Same F0 F → Wo k F H c' → EI k El F H σ d → D.ct σ H
theorem SP.fz {Γ Δ β : Type} {k : Cn} {F0 F1 : Hp} {E' : EV Γ} {El : EV Δ} {R : Rp β} {D : Ends} {t : Ct Γ Δ β} {c : Nat} (s : Same F0 F1) (h : SP k F0 E' El R D t c) : SP k F1 E' El R D t c := by
  cases t with
  | nx ρ => exact fun F H σ z => h F H σ (s.trans z)
  | rt b => exact h
  | bk ρ => exact fun F H σ z => h F H σ (s.trans z)
  | ct ρ => exact fun F H σ z => h F H σ (s.trans z)
def SS {Γ Γ' Δ β : Type} (μ : Md) (E : EV Γ) (E' : EV Γ') (El : EV Δ) (R : Rp β) (ts : TS) (m : Γ → M (Ct Γ' Δ β)) : Prop :=
  ∀ (k : Cn) (F H : Hp) (σ : L2.St) (ρ : Γ) (c : Nat) (D : Ends), Wo k F H c → EI k E F H σ ρ → (m ρ).wp c (SP k F E' El R D) (XP μ k) → ts D σ H
/-- a target -/
def SG {Γ Γ' α : Type} (E : EV Γ) (R : Rp α) (g : TG) (E' : EV Γ') (put : Γ → α → Γ') : Prop :=
  ∀ (k : Cn) (F H : Hp) (σ : L2.St) (ρ : Γ) (c : Nat) (v : V) (a : α) (Q : L2.St → Hp → Prop), Wo k F H c → EI k E F H σ ρ → R.r F v a → (∀ σ', EI k E' F H σ' (put ρ a) → Q σ' H) → g v σ H Q
def SGs {Γ Γ' α : Type} (E : EV Γ) (S : RA α) (g : TGs) (E' : EV Γ') (put : Γ → α → Γ') : Prop :=
  ∀ (k : Cn) (F H : Hp) (σ : L2.St) (ρ : Γ) (c : Nat) (vs : List V) (a : α) (Q : L2.St → Hp → Prop), Wo k F H c → EI k E F H σ ρ → S.r F vs a → (∀ σ', EI k E' F H σ' (put ρ a) → Q σ' H) → g vs σ H Q
section
variable {Γ Γ' Γ'' Δ Δ' α β γ δ : Type} {μ : Md} {E : EV Γ} {E' : EV Γ'} {E'' : EV Γ''} {El : EV Δ} {El' : EV Δ'} {Ra : Rp α} {Rb : Rp β} {R : Rp γ}
theorem g_name {i : Nat} {put : Γ → α → Γ'} (h : PutS E i (sVal Ra) E' put) : SG E Ra (gName i) E' put := fun k F H σ ρ c v a Q w e r q =>
  q _ ⟨h.put e.r ⟨v, rfl, r⟩, h.nd e.nd fun _ z => nomatch z⟩
theorem gs_nil : SGs E aNil gNil E fun ρ _ => ρ := fun k F H σ ρ c vs a Q w e r q => ⟨r, q σ e⟩
theorem gs_cons {S : RA β} {g : TG} {gs : TGs} {put : Γ → α → Γ'} {put' : Γ' → β → Γ''} (h : SG E Ra g E' put) (hs : SGs E' S gs E'' put') : SGs E (aCons Ra S) (gCons g gs) E'' fun ρ a => put' (put ρ a.1) a.2 := fun k F H σ ρ c vs a Q w e ⟨v, ws, ev, r, t⟩ q =>
  ⟨v, ws, ev, h k F H σ ρ c v a.1 _ w e r fun σ' e' => hs k F H σ' _ c ws a.2 Q w e' t q⟩
theorem g_tup {K : PySem.W.Frag} {S : RA α} {n : Nat} {gs : TGs} {put : Γ → α → Γ'} (h : SGs E S gs E' put) (hn : S.n = n) : SG E (rTx K S) (gTup K n gs) E' put := fun k F H σ ρ c v a Q w e ⟨p, vs, ev, hp, r⟩ q =>
  ⟨p, vs, ev, same_seqT w.sub hp, (S.len r).trans hn, h k F H σ ρ c vs a Q w e r q⟩
/-- x = e -/
theorem s_asg {te : TE} {m : Γ → M α} {g : TG} {put : Γ → α → Γ'} (he : SE μ E Ra te m) (hg : SG E Ra g E' put) : SS μ E E' El R (tAsg te g) fun ρ => (m ρ).bind fun a => .ret (.nx (put ρ a)) := fun k F H σ ρ c D w e h =>
  he k F H σ ρ c _ w e (wp_imp h fun a c1 q v F1 H1 x1 w1 r1 => hg k F1 H1 σ ρ c1 v a _ w1 (e.step x1) r1 fun σ' e' => q F1 H1 σ' x1.fz w1 e')
/-- x = a new list, one's own -/
theorem s_new {te : TE} {m : Γ → M (List α)} {i : Nat} {put : Γ → List α → Γ'} (he : SN μ E Ra te m) (hp : PutS E i (sOwn Ra) E' put) : SS μ E E' El R (tAsg te (gName i)) fun ρ => (m ρ).bind fun a => .ret (.nx (put ρ a)) := fun k F H σ ρ c D w e h =>
  he k F H σ ρ c _ w e (wp_imp h fun a c1 q D' vs F1 H1 x1 w1 n n0 hD f r1 => by
    have e1 := e.step x1
    exact q F1 H1 _ x1.fz w1 ⟨hp.put e1.r ⟨D', vs, rfl, hD, r1, f, n0, w1.np n0⟩, hp.nd e1.nd fun D'' ed z => by
      cases ed
      exact absurd n (E.has e.r z).1⟩)
theorem s_nil : SS μ E E El R tNext fun ρ => .ret (.nx ρ) := fun k F H σ ρ c D w e h => h F H σ (Same.refl F) w e
theorem s_brk : SS μ E E' E R tBreak fun ρ => .ret (.bk ρ) := fun k F H σ ρ c D w e h => h F H σ (Same.refl F) w e
theorem s_cnt : SS μ E E' E R tCont fun ρ => .ret (.ct ρ) := fun k F H σ ρ c D w e h => h F H σ (Same.refl F) w e
theorem s_seq {t u : TS} {m : Γ → M (Ct Γ' Δ γ)} {n : Γ' → M (Ct Γ'' Δ γ)} (h : SS μ E E' El R t m) (h' : SS μ E' E'' El R u n) : SS μ E E'' El R (tSeq t u) fun ρ => (m ρ).thn n := fun k F H σ ρ c D w e q =>
  h k F H σ ρ c _ w e (wp_imp q fun t c1 z => by
    cases t with
    | nx ρ' => exact fun F1 H1 σ1 s1 w1 e1 => h' k F1 H1 σ1 ρ' c1 D w1 e1 (wp_imp z fun _ _ z => z.fz s1)
    | rt b => exact z
    | bk d => exact z
    | ct d => exact z)
theorem s_if {tt : TT} {t u : TS} {mt : Γ → M Bool} {m n : Γ → M (Ct Γ' Δ γ)} (ht : ST μ E tt mt) (h : SS μ E E' El R t m) (h' : SS μ E E' El R u n) : SS μ E E' El R (tIfS tt t u) fun ρ => (mt ρ).bind fun b => .ifb b (m ρ) (n ρ) := fun k F H σ ρ c D w e q =>
  ht k F H σ ρ c _ w e (wp_imp q fun b c1 z F1 H1 x1 w1 => by
    cases b with
    | true => exact h k F1 H1 σ ρ c1 D w1 (e.step x1) (wp_imp z fun _ _ z => z.fz x1.fz)
    | false => exact h' k F1 H1 σ ρ c1 D w1 (e.step x1) (wp_imp z fun _ _ z => z.fz x1.fz))
theorem s_ret {te : TE} {m : Γ → M γ} (he : SE μ E R te m) : SS μ E E' El R (tRet te) fun ρ => (m ρ).bind fun a => .ret (.rt a) := fun k F H σ ρ c D w e h =>
  he k F H σ ρ c _ w e (wp_imp h fun a c1 q v F1 H1 x1 w1 r1 => q v F1 H1 w1 r1)
theorem s_retN : SS μ E E' El rNon tRetN fun ρ => .ret (.rt ()) := fun k F H σ ρ c D w e h => h .non F H w rfl
theorem s_drop {te : TE} {m : Γ → M α} (he : SE μ E Ra te m) : SS μ E E El R (tDrop te) fun ρ => (m ρ).bind fun _ => .ret (.nx ρ) := fun k F H σ ρ c D w e h =>
  he k F H σ ρ c _ w e (wp_imp h fun a c1 q v F1 H1 x1 w1 r1 => q F1 H1 σ x1.fz w1 (e.step x1))
/-- a step of the proof alone: what the slots are taken for -/
def Wk (E : EV Γ) (E' : EV Γ') (f : Γ → Γ') : Prop := ∀ (k : Cn) (F H : Hp) (σ : L2.St) (ρ : Γ) (c : Nat), Wo k F H c → EI k E F H σ ρ → ∃ F', Same F F' ∧ Wo k F' H c ∧ EI k E' F' H σ (f ρ)
theorem s_pre {t : TS} {f : Γ → Γ'} {m : Γ' → M (Ct Γ'' Δ γ)} (w : Wk E E' f) (h : SS μ E' E'' El R t m) : SS μ E E'' El R t fun ρ => m (f ρ) := fun k F H σ ρ c D wo e q => by
  obtain ⟨F', s', w', e'⟩ := w k F H σ ρ c wo e
  exact h k F' H σ (f ρ) c D w' e' (wp_imp q fun _ _ z => z.fz s')
theorem s_post {t : TS} {f : Γ' → Γ''} {m : Γ → M (Ct Γ' Δ γ)} (h : SS μ E E' El R t m) (wk : Wk E' E'' f) : SS μ E E'' El R t fun ρ => (m ρ).thn fun ρ' => .ret (.nx (f ρ')) := fun k F H σ ρ c D w e q =>
  h k F H σ ρ c D w e (wp_imp q fun t c1 z => by
    cases t with
    | nx ρ' =>
      intro F1 H1 σ1 s1 w1 e1
      obtain ⟨F', s', w', e'⟩ := wk k F1 H1 σ1 ρ' c1 w1 e1
      exact z F' H1 σ1 (s1.trans s') w' e'
    | rt b => exact z
    | bk d => exact z
    | ct d => exact z)
theorem wk_comp {f : Γ → Γ'} {g : Γ' → Γ''} (h : Wk E E' f) (h' : Wk E' E'' g) : Wk E E'' fun ρ => g (f ρ) := fun k F H σ ρ c w e => by
  obtain ⟨F1, s1, w1, e1⟩ := h k F H σ ρ c w e
  obtain ⟨F2, s2, w2, e2⟩ := h' k F1 H σ _ c w1 e1
  exact ⟨F2, s1.trans s2, w2, e2⟩
/-- slots forgotten -/
structure Fg (E : EV Γ) (E' : EV Γ') (f : Γ → Γ') : Prop where
  r : ∀ {p : Option Addr} {H0 F H : Hp} {σ : L2.St} {ρ : Γ}, E.r p H0 F H σ ρ → E'.r p H0 F H σ (f ρ)
  ow : ∀ σ, (E'.owns σ).Sublist (E.owns σ)
theorem fg_nil : Fg eNil eNil id := ⟨id, fun _ => List.Sublist.refl _⟩
theorem fg_keep {S : SR α} {f : Γ → Γ'} (h : Fg E E' f) : Fg (eCons S E) (eCons S E') fun ρ => (ρ.1, f ρ.2) := ⟨fun ⟨o, τ, e, r, t⟩ => ⟨o, τ, e, r, h.r t⟩, fun σ => by
  cases σ with
  | nil => exact List.Sublist.refl _
  | cons o τ => exact List.Sublist.append (List.Sublist.refl _) (h.ow τ)⟩
theorem fg_un {S : SR α} {f : Γ → Γ'} (h : Fg E E' f) : Fg (eCons S E) (eCons sUn E') fun ρ => ((), f ρ.2) := ⟨fun ⟨o, τ, e, r, t⟩ => ⟨o, τ, e, trivial, h.r t⟩, fun σ => by
  cases σ with
  | nil => exact List.Sublist.refl _
  | cons o τ => exact (h.ow τ).trans (List.sublist_append_right _ _)⟩
theorem wk_fg {f : Γ → Γ'} (h : Fg E E' f) : Wk E E' f := fun k F H σ ρ c w e => ⟨F, Same.refl F, w, h.r e.r, e.nd.sublist (h.ow σ)⟩
/-- a list of one's own in slot i is let go -/
structure FzS (E : EV Γ) (i : Nat) (R : Rp α) (E' : EV Γ') (f : Γ → Γ') : Prop where
  get : ∀ {p : Option Addr} {H0 F H : Hp} {σ : L2.St} {ρ : Γ}, E.r p H0 F H σ ρ → ∃ D vs, σ[i]? = some (some (.ref D)) ∧ H D = some (.lst vs) ∧ F D = none ∧ H0 D = none ∧ D ∈ E.owns σ
  put : ∀ {p : Option Addr} {H0 F H : Hp} {σ : L2.St} {ρ : Γ} {D : Addr} {vs : List V}, E.r p H0 F H σ ρ → (E.owns σ).Nodup → σ[i]? = some (some (.ref D)) → H D = some (.lst vs) → Same F (upd F D (.lst vs)) → E'.r p H0 (upd F D (.lst vs)) H σ (f ρ)
  ow : ∀ σ, (E'.owns σ).Sublist (E.owns σ)
theorem fz0 : FzS (eCons (sOwn Ra) E) 0 Ra (eCons (sVal (rLs Ra)) E) id where
  get := fun ⟨o, τ, e, ⟨D, vs, e2, h, t, n1, n2, n3⟩, _⟩ => ⟨D, vs, by rw [e, e2]; rfl, h, n1, n2, by rw [e, e2]; exact List.mem_cons_self⟩
  put := fun {p H0 F H σ ρ D vs} ⟨o, τ, e, ⟨D', vs', e2, h, t, n1, n2, n3⟩, q⟩ n hi hD s => by
    subst e e2
    obtain rfl : D' = D := by
      have hi' : some (some (V.ref D')) = some (some (V.ref D)) := hi
      cases hi'; rfl
    rw [h] at hD
    obtain rfl : vs' = vs := by cases hD; rfl
    exact ⟨_, τ, rfl, ⟨_, rfl, D', vs', rfl, upd_same, t.imp fun _ _ g => Ra.st s g⟩, E.fz s (List.nodup_cons.mp n).1 (.lst h) q⟩
  ow := fun σ => by
    cases σ with
    | nil => exact List.Sublist.refl _
    | cons o τ => exact List.sublist_append_right _ _
theorem fzS {S : SR β} {i : Nat} {f : Γ → Γ'} (h : FzS E i Ra E' f) : FzS (eCons S E) (i + 1) Ra (eCons S E') fun ρ => (ρ.1, f ρ.2) where
  get := fun ⟨o, τ, e, _, q⟩ => by
    obtain ⟨D, vs, h1, h2, h3, h4, h5⟩ := h.get q
    exact ⟨D, vs, by rw [e]; simpa using h1, h2, h3, h4, by rw [e]; exact List.mem_append_right _ h5⟩
  put := fun {p H0 F H σ ρ D vs} ⟨o, τ, e, t, q⟩ n hi hD s => by
    subst e
    obtain ⟨n1, n2, n3⟩ := List.nodup_append.mp n
    have hi' : τ[i]? = some (some (.ref D)) := by simpa using hi
    obtain ⟨D', vs', h1, h2, _, _, h4⟩ := h.get q
    rw [hi'] at h1
    obtain rfl : D = D' := by cases h1; rfl
    exact ⟨o, τ, rfl, S.fz s (fun z => n3 D (by rw [z]; simp) D h4 rfl) (.lst hD) t, h.put q n2 hi' hD s⟩
  ow := fun σ => by
    cases σ with
    | nil => exact List.Sublist.refl _
    | cons o τ => exact List.Sublist.append (List.Sublist.refl _) (h.ow τ)
theorem wk_fz {i : Nat} {f : Γ → Γ'} (h : FzS E i Ra E' f) : Wk E E' f := fun k F H σ ρ c w e => by
  obtain ⟨D, vs, h1, h2, h3, h4, _⟩ := h.get e.r
  obtain ⟨s, w2⟩ := w.fz h4 h3 h2
  exact ⟨_, s, w2, h.put e.r e.nd h1 h2 s, e.nd.sublist (h.ow σ)⟩
/-! ### loops -/
theorem s_for {wi : TI} {g : TG} {tb : TS} {ml : Γ → M (List α)} {put : Γ → α → Γ'} {mb : Γ' → M (Ct Γ Γ γ)} (hi : SI μ E Ra wi ml) (hg : SG E Ra g E' put) (hb : SS μ E' E E R tb mb) :
    SS μ E E El R (tFor wi g tb) fun ρ => (ml ρ).bind fun xs => M.forM xs (fun a ρ => mb (put ρ a)) ρ := fun k F H σ ρ c D w e h =>
  hi k F H σ ρ c _ w e (wp_imp h fun xs c1 q J F1 H1 x1 w1 wk => by
    refine ⟨fun i n σ' H' => n = xs.length - i ∧ i ≤ xs.length ∧ ∃ F' ρ' c', Same F1 F' ∧ Wo k F' H' c' ∧ EI k E F' H' σ' ρ' ∧ (M.forM (Δ := Δ) (xs.drop i) (fun a ρ => mb (put ρ a)) ρ').wp c' (SP k F1 E El R D) (XP μ k),
      ⟨xs.length, by simp, Nat.zero_le _, F1, ρ, c1, Same.refl _, w1, e.step x1, wp_imp q fun _ _ z => z.fz x1.fz⟩, ?_⟩
    rintro i n σ' H' ⟨rfl, hi, F', ρ', c', sF, w', e', q'⟩
    obtain ⟨go, stop⟩ := wk i F' H' sF w'.sub
    by_cases hlt : i < xs.length
    · obtain ⟨g1, g2⟩ := go _ (List.getElem?_eq_getElem hlt)
      have ed : xs.drop i = xs[i] :: xs.drop (i + 1) := List.drop_eq_getElem_cons hlt
      rw [ed, M.forM_cons] at q'
      refine .inr ⟨g1, fun σ2 H2 => ∃ F2 ρ2 c2, Same F1 F2 ∧ Wo k F2 H2 c2 ∧ EI k E F2 H2 σ2 ρ2 ∧ (M.forM (Δ := Δ) (xs.drop (i + 1)) (fun a ρ => mb (put ρ a)) ρ2).wp c2 (SP k F1 E El R D) (XP μ k),
        fun σ2 H2 z => ⟨xs.length - (i + 1), by omega, rfl, hlt, z⟩, fun x H2 y => ?_⟩
      obtain ⟨F2, x2, r2⟩ := g2 x H2 y
      obtain ⟨x2', w2⟩ := w'.call x2
      have s12 : Same F1 F2 := sF.trans x2.fz
      refine hg k F2 H2 σ' ρ' c' x _ _ w2 (e'.step x2') r2 fun σ3 e3 => ?_
      refine hb k F2 H2 σ3 _ c' _ w2 e3 ((mb _).mono c' (fun t c3 z => ?_) (fun _ z => z) q')
      cases t with
      | nx ρ4 => exact fun F4 H4 σ4 s4 w4 e4 => ⟨F4, ρ4, c3, s12.trans s4, w4, e4, z⟩
      | ct ρ4 => exact fun F4 H4 σ4 s4 w4 e4 => ⟨F4, ρ4, c3, s12.trans s4, w4, e4, z⟩
      | bk ρ4 => exact fun F4 H4 σ4 s4 w4 e4 => z F4 H4 σ4 (s12.trans s4) w4 e4
      | rt b => exact fun v F4 H4 w4 r4 => z v F4 H4 w4 r4
    · have e0 : i = xs.length := by omega
      subst e0
      rw [List.drop_length, M.forM_nil] at q'
      exact .inl ⟨stop (Nat.le_refl _), q' F' H' σ' sF w' e'⟩)
theorem s_while {tt : TT} {tb : TS} {mt : Γ → M Bool} {mb : Γ → M (Ct Γ Γ γ)} (ht : ST μ E tt mt) (hb : SS μ E E E R tb mb) : SS μ E E El R (tWhile tt tb) fun ρ => M.whileM mt mb ρ := fun k F H σ ρ c D w e ⟨n, h⟩ => by
  refine ⟨fun n σ' H' => ∃ F' ρ' c', Same F F' ∧ Wo k F' H' c' ∧ EI k E F' H' σ' ρ' ∧ (M.whileN (Δ := Δ) mt mb n ρ').wp c' (SP k F E El R D) (XP μ k), ⟨n, F, ρ, c, Same.refl _, w, e, h⟩, ?_⟩
  rintro n σ' H' ⟨F', ρ', c', sF, w', e', q'⟩
  cases n with
  | zero => exact q'.elim
  | succ n =>
    refine ht k F' H' σ' ρ' c' _ w' e' (wp_imp q' fun b c2 z F2 H2 x2 w2 => ?_)
    cases b with
    | false => exact z F2 H2 σ' (sF.trans x2.fz) w2 (e'.step x2)
    | true =>
      refine ⟨fun σ3 H3 => ∃ F' ρ' c', Same F F' ∧ Wo k F' H3 c' ∧ EI k E F' H3 σ3 ρ' ∧ (M.whileN (Δ := Δ) mt mb n ρ').wp c' (SP k F E El R D) (XP μ k), fun σ3 H3 z => ⟨n, Nat.lt_succ_self n, z⟩, ?_⟩
      have s2 : Same F F2 := sF.trans x2.fz
      refine hb k F2 H2 σ' ρ' c2 _ w2 (e'.step x2) ((mb _).mono c2 (fun t c3 z => ?_) (fun _ z => z) z)
      cases t with
      | nx ρ4 => exact fun F4 H4 σ4 s4 w4 e4 => ⟨F4, ρ4, c3, s2.trans s4, w4, e4, z⟩
      | ct ρ4 => exact fun F4 H4 σ4 s4 w4 e4 => ⟨F4, ρ4, c3, s2.trans s4, w4, e4, z⟩
      | bk ρ4 => exact fun F4 H4 σ4 s4 w4 e4 => z F4 H4 σ4 (s2.trans s4) w4 e4
      | rt b => exact fun v F4 H4 w4 r4 => z v F4 H4 w4 r4
/-! ### comprehensions -/
theorem ExtX.mod {p : Option Addr} {F H F' H' : Hp} {D : Addr} {o : HO} (x : ExtX p F H F' H') (n : H D = none) (f : F' D = none) : ExtX p F H F' (upd H' D o) := by
  refine ⟨x.fz, fun b u e => ?_, fun b u np e => ?_, x.old, fun b nb => ?_⟩
  · rw [upd_ne (ne_of_none e f)]; exact x.sub _ _ e
  · rw [upd_ne (ne_of_none e n)]; exact x.hp b u np e
  · by_cases c : b = D
    · subst c; rw [upd_same]; simp
    · rw [upd_ne c]; exact x.on b nb
theorem Wo.mod {k : Cn} {F H : Hp} {c : Nat} {D : Addr} {o : HO} (w : Wo k F H c) (n : k.H0 D = none) (f : F D = none) : Wo k F (upd H D o) c := by
  have x := w.ext.mod (o := o) n f
  refine ⟨x.sub, x, fun a e => ?_⟩
  obtain ⟨h1, h2, h3⟩ := w.dice a e
  have ne : a ≠ D := fun z => by subst z; exact h2 n
  obtain ⟨d0, d1, d2, h, r⟩ := h3
  exact ⟨h1, h2, d0, d1, d2, by rw [upd_ne ne]; exact h, r⟩
/-- a comprehension's target: the slots js are its own -/
def SGw (js : List Nat) (E : EV Γ) (R : Rp α) (g : TG) (E' : EV Γ') (put : Γ → α → Γ') : Prop :=
  ∀ (k : Cn) (F H : Hp) (σ : L2.St) (ρ : Γ) (c : Nat) (v : V) (a : α) (Q : L2.St → Hp → Prop), Wo k F H c → EI k E F H σ ρ → R.r F v a → (∀ σ', wipe σ' js = wipe σ js → EI k E' F H σ' (put ρ a) → Q σ' H) → g v (wipe σ js) H Q
theorem gw_name {j : Nat} {put : Γ → α → Γ'} (h : PutS E j (sVal Ra) E' put) : SGw [j] E Ra (gName j) E' put := fun k F H σ ρ c v a Q w e r q => by
  show Q ((σ.set j none).set j (some v)) H
  rw [List.set_set]
  refine q _ ?_ ⟨h.put e.r ⟨v, rfl, r⟩, h.nd e.nd fun _ z => nomatch z⟩
  show (σ.set j (some v)).set j none = σ.set j none
  rw [List.set_set]
theorem gw_two {K : PySem.W.Frag} {i j : Nat} {put : Γ → α → Γ'} {put' : Γ' → β → Γ''} (ne : i ≠ j) (h : PutS E i (sVal Ra) E' put) (h' : PutS E' j (sVal Rb) E'' put') :
    SGw [i, j] E (rTx K (aCons Ra (aCons Rb aNil))) (gTup K 2 (gCons (gName i) (gCons (gName j) gNil))) E'' fun ρ a => put' (put ρ a.1) a.2.1 := fun k F H σ ρ c v a Q w e ⟨p, vs, ev, hp, ⟨v1, ws, e1, r1, ⟨v2, ws2, e2, r2, e3⟩⟩⟩ q => by
  subst ev e1 e2 e3
  refine ⟨p, _, rfl, same_seqT w.sub hp, rfl, v1, _, rfl, v2, _, rfl, rfl, ?_⟩
  have es : ((wipe σ [i, j]).set i (some v1)).set j (some v2) = (σ.set i (some v1)).set j (some v2) := by
    show (((σ.set j none).set i none).set i (some v1)).set j (some v2) = _
    rw [List.set_set, List.set_comm _ _ ne, List.set_set, List.set_comm _ _ (Ne.symm ne)]
  rw [es]
  have e1 : EI k E' F H (σ.set i (some v1)) (put ρ a.1) := ⟨h.put e.r ⟨v1, rfl, r1⟩, h.nd e.nd fun _ z => nomatch z⟩
  refine q _ ?_ ⟨h'.put e1.r ⟨v2, rfl, r2⟩, h'.nd e1.nd fun _ z => nomatch z⟩
  show ((((σ.set i (some v1)).set j (some v2)).set j none).set i none) = (σ.set j none).set i none
  rw [List.set_set, List.set_comm _ _ (Ne.symm ne), List.set_set, List.set_comm _ _ ne]
theorem EI.upd {k : Cn} {F H : Hp} {σ : L2.St} {ρ : Γ} {D : Addr} {o : HO} (e : EI k E F H σ ρ) (n : D ∉ E.owns σ) (w : NwL H D) : EI k E F (L2.upd H D o) σ ρ := ⟨E.upd n w e.r, e.nd⟩
theorem t_yes : ST μ E tYes fun _ => .ret true := fun k F H σ ρ c Q w e q => q F H (ExtX.refl w.sub) w
/-- [e for x in xs if t] -/
theorem n_lc {wi : TI} {tt : TT} {te : TE} {js : List Nat} {ml : Γ → M (List α)} {put : Γ → α → Γ'} {mt : Γ' → M Bool} {me : Γ' → M β} {gg : TG} (hi : SI μ E Ra wi ml) (hg : SGw js E Ra gg E' put) (ht : ST μ E' tt mt) (he : SE μ E' Rb te me) :
    SN μ E Rb (tLc wi gg tt te js) fun ρ => (ml ρ).bind fun xs => .need (xs.length ≤ 1000000) (M.lcM xs fun a => (mt (put ρ a)).bind fun b => .ifb b ((me (put ρ a)).bind fun y => .ret (some y)) (.ret none)) := fun k F H σ ρ c Q w e h =>
  hi k F H σ ρ c _ w e (wp_imp h fun xs c1 ⟨hxs, q⟩ J F1 H1 x1 w1 wk D nD => by
    have nDH : H D = none := by
      cases z : H D with
      | none => rfl
      | some o => exact absurd nD (x1.on D (by rw [z]; simp))
    have nD0 := w.h0 nDH
    have nDF : F1 D = none := w1.sub.free nD
    have now : D ∉ E.owns σ := fun z => (E.has e.r z).1 nDH
    have np : k.p ≠ some D := w.np nD0
    refine ⟨fun i n H' => n = xs.length - i ∧ i ≤ xs.length ∧ ∃ F' c' acc ys, Same F1 F' ∧ ExtX k.p F H F' H' ∧ Wo k F' H' c' ∧ EI k E F' H' σ ρ ∧ F' D = none ∧ H' D = some (.lst acc) ∧ acc.length ≤ i ∧ All2 (Rb.r F') acc ys ∧
        (M.lcM (xs.drop i) fun a => (mt (put ρ a)).bind fun b => .ifb b ((me (put ρ a)).bind fun y => .ret (some y)) (.ret none)).wp c' (fun zs c => VN k F H Rb Q (ys ++ zs) c) (XP μ k),
      ⟨xs.length, by simp, Nat.zero_le _, F1, c1, [], [], Same.refl _, x1.mod nDH nDF, w1.mod nD0 nDF, (e.step x1).upd now (.inl nD), nDF, upd_same, Nat.le_refl _, .nil, q⟩, ?_⟩
    rintro i n H' ⟨rfl, hi, F', c', acc, ys, s1, x', w', e', f', hD', hl, al, q'⟩
    obtain ⟨go, stop⟩ := wk i F' H' s1 w'.sub
    by_cases hlt : i < xs.length
    · obtain ⟨g1, g2⟩ := go _ (List.getElem?_eq_getElem hlt)
      have ed : xs.drop i = xs[i] :: xs.drop (i + 1) := List.drop_eq_getElem_cons hlt
      rw [ed, M.lcM_cons] at q'
      refine .inr ⟨g1, fun H2 => i + 1 ≤ xs.length ∧ ∃ F' c' acc ys, Same F1 F' ∧ ExtX k.p F H F' H2 ∧ Wo k F' H2 c' ∧ EI k E F' H2 σ ρ ∧ F' D = none ∧ H2 D = some (.lst acc) ∧ acc.length ≤ i + 1 ∧ All2 (Rb.r F') acc ys ∧
        (M.lcM (xs.drop (i + 1)) fun a => (mt (put ρ a)).bind fun b => .ifb b ((me (put ρ a)).bind fun y => .ret (some y)) (.ret none)).wp c' (fun zs c => VN k F H Rb Q (ys ++ zs) c) (XP μ k),
        fun H2 ⟨z0, z⟩ => ⟨xs.length - (i + 1), by omega, rfl, z0, z⟩, fun x H2 y => ?_⟩
      obtain ⟨F2, x2, r2⟩ := g2 x H2 y
      obtain ⟨x2', w2⟩ := w'.call x2
      refine hg k F2 H2 σ ρ c' x _ _ w2 (e'.step x2') r2 fun σ3 hw e3 => ⟨hw, ?_⟩
      refine ht k F2 H2 σ3 _ c' _ w2 e3 (wp_imp q' fun b c3 z F3 H3 x3 w3 => ?_)
      have x13 := x2'.trans x3
      have f3 : F3 D = none := (x13.old D (some_ne hD')).trans f'
      have h3 : H3 D = some (.lst acc) := x13.hp D _ np hD'
      cases b with
      | false => exact ⟨hlt, F3, c3, acc, ys, s1.trans x13.fz, x'.trans x13, w3, e'.step x13, f3, h3, Nat.le_succ_of_le hl, al.imp fun _ _ g => Rb.st x13.fz g, z⟩
      | true =>
        refine he k F3 H3 σ3 _ c3 _ w3 (e3.step x3) (wp_imp z fun y c4 z v F4 H4 x4 w4 r4 => ?_)
        have x14 := x13.trans x4
        have f4 : F4 D = none := (x14.old D (some_ne hD')).trans f'
        have h4 : H4 D = some (.lst acc) := x14.hp D _ np hD'
        refine ⟨acc, h4, by rw [sizeLine_eq]; omega, hlt, F4, c4, acc ++ [v], ys ++ [y], s1.trans x14.fz, (x'.trans x14).mod nDH f4, w4.mod nD0 f4, (e'.step x14).upd now (.lst h4), f4, upd_same, by rw [List.length_append]; exact Nat.succ_le_succ hl, (al.imp fun _ _ g => Rb.st x14.fz g).snoc r4, ?_⟩
        exact wp_imp z fun zs c z => by
          rw [List.append_assoc]
          exact z
    · have e0 : i = xs.length := by omega
      subst e0
      rw [List.drop_length, M.lcM_nil] at q'
      refine .inl ⟨stop (Nat.le_refl _), ?_⟩
      have z : VN k F H Rb Q (ys ++ []) c' := q'
      rw [List.append_nil] at z
      exact z D acc F' H' x' w' nDH nD0 hD' f' al)
/-! ### walked things -/
theorem i_ls {K : PySem.W.Frag} {tl : TE} {m : Γ → M (List α)} (h : SE μ E (rLs Ra) tl m) : SI μ E Ra (iList K tl) m := fun k F H σ ρ c W w e q =>
  h k F H σ ρ c _ w e (wp_imp q fun xs c1 z v F1 H1 x1 w1 ⟨p, vs, ev, hp, al⟩ => ⟨p, ev, ⟨vs, .of (w1.sub _ _ hp)⟩, z _ F1 H1 x1 w1 fun i F' H' s1 s2 => by
    have sq : SqL K H' p vs := .of (s2 _ _ (s1 _ _ hp))
    refine ⟨fun a ha => ?_, fun hi => ⟨vs, sq, by rw [al.len]; exact hi⟩⟩
    obtain ⟨u, hu, r⟩ := al.get ha
    exact ⟨⟨vs, u, sq, hu⟩, fun x H'' ⟨e1, e2⟩ => by
      subst e1
      have := e2 vs sq
      rw [hu] at this
      cases this
      exact ⟨F', ExtX.refl s2, Ra.st s1 r⟩⟩⟩)
theorem i_lst {K : PySem.W.Frag} {tl : TE} {m : Γ → M (List α)} (h : SE μ E (rLst K Ra) tl m) : SI μ E Ra (iList K tl) m := fun k F H σ ρ c W w e q =>
  h k F H σ ρ c _ w e (wp_imp q fun xs c1 z v F1 H1 x1 w1 ⟨p, vs, ev, hp, al⟩ => ⟨p, ev, ⟨vs, w1.sub.seq hp⟩, z _ F1 H1 x1 w1 fun i F' H' s1 s2 => by
    have sq : SqL K H' p vs := s2.seq (s1.seq hp)
    refine ⟨fun a ha => ?_, fun hi => ⟨vs, sq, by rw [al.len]; exact hi⟩⟩
    obtain ⟨u, hu, r⟩ := al.get ha
    exact ⟨⟨vs, u, sq, hu⟩, fun x H'' ⟨e1, e2⟩ => by
      subst e1
      have := e2 vs sq
      rw [hu] at this
      cases this
      exact ⟨F', ExtX.refl s2, Ra.st s1 r⟩⟩⟩)
theorem i_tup {K : PySem.W.Frag} {tl : TE} {m : Γ → M (List α)} (h : SE μ E (rTup K Ra) tl m) : SI μ E Ra (iTup K tl) m := fun k F H σ ρ c W w e q =>
  h k F H σ ρ c _ w e (wp_imp q fun xs c1 z v F1 H1 x1 w1 ⟨p, vs, ev, hp, al⟩ => ⟨p, ev, ⟨vs, same_seqT w1.sub hp⟩, z _ F1 H1 x1 w1 fun i F' H' s1 s2 => by
    have sq : SqT K H' p vs := same_seqT s2 (same_seqT s1 hp)
    refine ⟨fun a ha => ?_, fun hi => ⟨vs, sq, by rw [al.len]; exact hi⟩⟩
    obtain ⟨u, hu, r⟩ := al.get ha
    exact ⟨⟨vs, u, sq, hu⟩, fun x H'' ⟨e1, e2⟩ => by
      subst e1
      have := e2 vs sq
      rw [hu] at this
      cases this
      exact ⟨F', ExtX.refl s2, Ra.st s1 r⟩⟩⟩)
/-- lo, lo + 1, .. -/
theorem rng_ex (lo hi : Int) : ∃ l : List Int, l = (List.range (hi - lo).toNat).map fun i : Nat => lo + (i : Int) := ⟨_, rfl⟩
noncomputable def rng (lo hi : Int) : List Int := Classical.choose (rng_ex lo hi)
theorem rng_eq (lo hi : Int) : rng lo hi = (List.range (hi - lo).toNat).map fun i : Nat => lo + (i : Int) := Classical.choose_spec (rng_ex lo hi)
theorem rng_get {lo hi a : Int} {i : Nat} (h : (rng lo hi)[i]? = some a) : i < (hi - lo).toNat ∧ a = lo + (i : Int) := by
  rw [rng_eq] at h
  rw [List.getElem?_map] at h
  cases z : (List.range (hi - lo).toNat)[i]? with
  | none => rw [z] at h; cases h
  | some j =>
    rw [z] at h
    obtain ⟨h1, h2⟩ := List.getElem?_eq_some_iff.mp z
    rw [List.length_range] at h1
    rw [List.getElem_range] at h2
    cases h
    exact ⟨h1, by rw [h2]⟩
theorem rng_walks {F1 : Hp} {lo hi : Int} : Walks (Itr lo (hi - lo).toNat) F1 rInt (rng lo hi) := fun i F' H' s1 s2 =>
  ⟨fun a ha => by
    obtain ⟨h1, h2⟩ := rng_get ha
    exact ⟨h1, fun x H'' ⟨e1, e2⟩ => ⟨F', by rw [e1]; exact ExtX.refl s2, by rw [h2]; exact e2⟩⟩, fun hi => by
    rw [rng_eq, List.length_map, List.length_range] at hi
    exact hi⟩
theorem i_rng2 {ta tb : TE} {ma mb : Γ → M Int} (ha : SE μ E rInt ta ma) (hb : SE μ E rInt tb mb) : SI μ E rInt (iRng2 (tCons ta (tCons tb tNil))) fun ρ => (ma ρ).bind fun a => (mb ρ).bind fun b => .need (-(2 ^ 62) ≤ a ∧ a < 2 ^ 62 ∧ -(2 ^ 62) ≤ b ∧ b < 2 ^ 62) (.ret (rng a b)) := fun k F H σ ρ c W w e h =>
  ha k F H σ ρ c _ w e (wp_imp h fun a c1 q v F1 H1 x1 w1 r1 => hb k F1 H1 σ ρ c1 _ w1 (e.step x1) (wp_imp q fun b c2 ⟨q1, q⟩ v2 F2 H2 x2 w2 r2 => by
    cases r1
    cases r2
    exact ⟨a, b, rfl, q1, q _ F2 H2 (x1.trans x2) w2 rng_walks⟩))
theorem i_rng1 {ta : TE} {ma : Γ → M Int} (ha : SE μ E rInt ta ma) : SI μ E rInt (iRng1 (tCons ta tNil)) fun ρ => (ma ρ).bind fun a => .need (-(2 ^ 62) ≤ a ∧ a < 2 ^ 62) (.ret (rng 0 a)) := fun k F H σ ρ c W w e h =>
  ha k F H σ ρ c _ w e (wp_imp h fun a c1 ⟨⟨q1, q2⟩, q⟩ v F1 H1 x1 w1 r1 => by
    cases r1
    exact ⟨a, rfl, q1, q2, q _ F1 H1 x1 w1 (by
      have z := rng_walks (F1 := F1) (lo := 0) (hi := a)
      rw [Int.sub_zero] at z
      exact z)⟩)
/-! ### a def by its body -/
/-- the slots at the start: S the parameters, n others -/
structure St0 (S : RA α) (n : Nat) (E : EV Γ) (ρ0 : α → Γ) : Prop where
  r : ∀ {p : Option Addr} {H0 F H : Hp} {vs : List V} {a : α}, S.r F vs a → E.r p H0 F H (vs.map some ++ List.replicate n none) (ρ0 a)
  ow : ∀ σ, E.owns σ = []
theorem st_nil : St0 aNil 0 eNil fun _ => () := ⟨fun h => by subst h; rfl, fun _ => rfl⟩
theorem st_un {n : Nat} {ρ0 : Unit → Γ} (h : St0 aNil n E ρ0) : St0 aNil (n + 1) (eCons sUn E) fun a => ((), ρ0 a) := ⟨fun {p H0 F H vs a} z => by
  have z' : vs = [] := z
  subst z'
  exact ⟨none, List.replicate n none, rfl, trivial, h.r (F := F) (vs := []) z⟩, fun σ => by
  cases σ with
  | nil => rfl
  | cons o τ => exact h.ow τ⟩
theorem st_par {S : RA β} {n : Nat} {ρ0 : β → Γ} (h : St0 S n E ρ0) : St0 (aCons Ra S) n (eCons (sVal Ra) E) fun a => (a.1, ρ0 a.2) := ⟨fun ⟨v, ws, e, r, t⟩ => ⟨some v, ws.map some ++ List.replicate n none, by rw [e]; rfl, ⟨v, rfl, r⟩, h.r t⟩, fun σ => by
  cases σ with
  | nil => rfl
  | cons o τ => exact h.ow τ⟩
/-- with the dice ahead -/
structure StD (S : RA α) (n : Nat) (E : EV Γ) (ρ0 : α → Γ) : Prop where
  r : ∀ {p : Addr} {H0 F H : Hp} {vs : List V} {a : α}, S.r F vs a → E.r (some p) H0 F H ((.ref p :: vs).map some ++ List.replicate n none) (ρ0 a)
  ow : ∀ σ, E.owns σ = []
theorem st_dice {S : RA β} {n : Nat} {ρ0 : β → Γ} (h : St0 S n E ρ0) : StD S n (eCons sDice E) fun a => ((), ρ0 a) := ⟨fun {p H0 F H vs a} z => ⟨_, vs.map some ++ List.replicate n none, rfl, ⟨p, rfl, rfl⟩, h.r z⟩, fun σ => by
  cases σ with
  | nil => rfl
  | cons o τ => exact h.ow τ⟩
theorem start_eq {N : List Str} {vs : List V} {n : Nat} (h : N.length = vs.length + n) : L2.start N vs = vs.map some ++ List.replicate n none := by
  unfold L2.start
  rw [h, Nat.add_sub_cancel_left]
theorem fn_body {S : RA α} {n : Nat} {ρ0 : α → Γ} {N : List Str} {t : TS} {mb : Γ → M (Ct Γ' Unit γ)} (h0 : St0 S n E ρ0) (hn : N.length = S.n + n) (hb : SS md0 E E' eNil R t mb) {vs : List V} {H : Hp} {Q : VK} {X : XK}
    (hs : spOf S R (fun a => (mb (ρ0 a)).fin) vs H Q X) : t { nx := fun _ H' => Q .non H', rt := Q } (L2.start N vs) H := by
  obtain ⟨F, a, s, r, h⟩ := hs
  rw [start_eq (n := n) (by rw [hn, S.len r])]
  refine hb ⟨none, F, H⟩ F H _ (ρ0 a) 0 _ ⟨s, ExtX.refl s, fun _ e => nomatch e⟩ ⟨h0.r r, by rw [h0.ow]; exact List.nodup_nil⟩ ?_
  refine (mb (ρ0 a)).mono 0 (fun t c z => ?_) (fun er z => z.elim) h
  cases t with
  | nx _ => exact z.elim
  | rt b => exact fun v F' H' w r => z v F' H' w.ext r
  | bk _ => exact z.elim
  | ct _ => exact z.elim
theorem fn_bodyN {S : RA α} {n : Nat} {ρ0 : α → Γ} {N : List Str} {t : TS} {mb : Γ → M (Ct Γ' Unit Unit)} (h0 : St0 S n E ρ0) (hn : N.length = S.n + n) (hb : SS md0 E E' eNil rNon t mb) {vs : List V} {H : Hp} {Q : VK} {X : XK}
    (hs : spOf S rNon (fun a => (mb (ρ0 a)).finN) vs H Q X) : t { nx := fun _ H' => Q .non H', rt := Q } (L2.start N vs) H := by
  obtain ⟨F, a, s, r, h⟩ := hs
  rw [start_eq (n := n) (by rw [hn, S.len r])]
  refine hb ⟨none, F, H⟩ F H _ (ρ0 a) 0 _ ⟨s, ExtX.refl s, fun _ e => nomatch e⟩ ⟨h0.r r, by rw [h0.ow]; exact List.nodup_nil⟩ ?_
  refine (mb (ρ0 a)).mono 0 (fun t c z => ?_) (fun er z => z.elim) h
  cases t with
  | nx _ => exact fun F' H' σ' _ w _ => z .non F' H' w.ext rfl
  | rt b => exact fun v F' H' w r => z v F' H' w.ext r
  | bk _ => exact z.elim
  | ct _ => exact z.elim
theorem fn_bodyD {S : RA α} {n : Nat} {ρ0 : α → Γ} {N : List Str} {t : TS} {mb : Γ → M (Ct Γ' Unit γ)} (h0 : StD S n E ρ0) (hn : N.length = S.n + 1 + n) (hb : SS md0 E E' eNil R t mb) {vs : List V} {H : Hp} {Q : VK} {X : XK}
    (hs : spOfD S R (fun a => (mb (ρ0 a)).fin) vs H Q X) : t { nx := fun _ H' => Q .non H', rt := Q } (L2.start N vs) H := by
  obtain ⟨F, p, ws, a, c, rfl, s, f, d, r, h⟩ := hs
  rw [start_eq (n := n) (by rw [hn, List.length_cons, S.len r])]
  have hp : H p ≠ none := by obtain ⟨_, _, _, z, _⟩ := d; rw [z]; simp
  refine hb ⟨some p, F, H⟩ F H _ (ρ0 a) c _ ⟨s, ExtX.refl s, fun q e => by cases e; exact ⟨f, hp, d⟩⟩ ⟨h0.r r, by rw [h0.ow]; exact List.nodup_nil⟩ ?_
  refine (mb (ρ0 a)).mono c (fun t c z => ?_) (fun er z => z.elim) h
  cases t with
  | nx _ => exact z.elim
  | rt b => exact fun v F' H' w r => z v F' H' w.ext (w.dice p rfl).1 (w.dice p rfl).2.2 r
  | bk _ => exact z.elim
  | ct _ => exact z.elim
theorem spOf_len {S : RA α} {m : α → M γ} {vs : List V} {H : Hp} {Q : VK} {X : XK} (h : spOf S R m vs H Q X) : vs.length = S.n := by
  obtain ⟨F, a, s, r, _⟩ := h
  exact S.len r
theorem spOfD_len {S : RA α} {m : α → M γ} {vs : List V} {H : Hp} {Q : VK} {X : XK} (h : spOfD S R m vs H Q X) : vs.length = S.n + 1 := by
  obtain ⟨F, p, ws, a, c, rfl, s, f, d, r, _⟩ := h
  rw [List.length_cons, S.len r]
end
end PF

set_option Elab.async false
set_option linter.all false
set_option maxRecDepth 100000
set_option maxHeartbeats 4000000
namespace PF
open PySem PySem.Spec PyProof.Rows L2 SlX
section
variable {Γ Γ' Γ'' Δ α β γ δ : Type} {μ : Md} {E : EV Γ} {E' : EV Γ'} {E'' : EV Γ''} {El : EV Δ} {Ra : Rp α} {Rb : Rp β} {R : Rp γ} {K : PySem.W.Frag}
theorem VP.now {k : Cn} {F H : Hp} {c : Nat} {Q : VK} {v : V} {a : α} (w : Wo k F H c) (q : VP k F H Ra Q a c) (r : Ra.r F v a) : Q v H := q v F H (ExtX.refl w.sub) w r
theorem VP.newT {k : Cn} {F H : Hp} {c : Nat} {Q : VK} {a : α} {p : Addr} {o : HO} (w : Wo k F H c) (q : VP k F H Ra Q a c) (n : H p = none) (r : Same F (upd F p o) → Ra.r (upd F p o) (.ref p) a) : Q (.ref p) (upd H p o) :=
  q _ _ _ (ExtX.new (p := k.p) w.sub n o) (w.new n o) (r (ExtX.new (p := k.p) w.sub n o).fz)
theorem VN.newL {k : Cn} {F H : Hp} {c : Nat} {Q : VK} {xs : List α} {p : Addr} {vs : List V} (w : Wo k F H c) (q : VN k F H Ra Q xs c) (n : H p = none) (r : All2 (Ra.r F) vs xs) : Q (.ref p) (upd H p (.lst vs)) :=
  q p vs _ _ (ExtX.own (p := k.p) w.sub n _) (w.own n _) n (w.h0 n) upd_same (w.sub.free n) r
abbrev a1 (R : Rp α) : RA (α × Unit) := aCons R aNil
abbrev a2 (R : Rp α) (S : Rp β) : RA (α × β × Unit) := aCons R (aCons S aNil)
theorem one {F : Hp} {vs : List V} {a : α × Unit} (h : (a1 Ra).r F vs a) : ∃ v, vs = [v] ∧ Ra.r F v a.1 := by
  obtain ⟨v, ws, e, r, e2⟩ := h
  have e2' : ws = [] := e2
  exact ⟨v, by rw [e, e2'], r⟩
theorem two {F : Hp} {vs : List V} {a : α × β × Unit} (h : (a2 Ra Rb).r F vs a) : ∃ v w, vs = [v, w] ∧ Ra.r F v a.1 ∧ Rb.r F w a.2.1 := by
  obtain ⟨v, ws, e, r, u, us, e1, r2, e2⟩ := h
  have e2' : us = [] := e2
  exact ⟨v, u, by rw [e, e1, e2'], r, r2⟩
theorem c_abs : CaS μ (fun xs H Q => ∃ i, xs = [.int i] ∧ Q (.int (if i < 0 then -i else i)) H) (a1 rInt) rInt fun a => .ret (if a.1 < 0 then -a.1 else a.1) := fun k F H c vs a Q w r q => by
  obtain ⟨v, e, r⟩ := one r
  exact ⟨a.1, by rw [e, r], q.now w rfl⟩
theorem c_len {n : α → Nat} (h : ∀ {F H : Hp} {v : V} {a : α}, Same F H → Ra.r F v a → LenV K v H (n a)) : CaS μ (fun xs H Q => ∃ x n, xs = [x] ∧ LenV K x H n ∧ Q (.int n) H) (a1 Ra) rInt fun a => .ret (n a.1 : Int) := fun k F H c vs a Q w r q => by
  obtain ⟨v, e, r⟩ := one r
  exact ⟨v, n a.1, e, h w.sub r, q.now w rfl⟩
theorem len_ls {F H : Hp} {v : V} {xs : List α} (s : Same F H) (h : (rLs Ra).r F v xs) : LenV K v H xs.length := by
  obtain ⟨p, vs, rfl, hp, al⟩ := h
  exact .inl ⟨vs, .of (s _ _ hp), al.len.symm⟩
theorem len_lst {F H : Hp} {v : V} {xs : List α} (s : Same F H) (h : (rLst K Ra).r F v xs) : LenV K v H xs.length := by
  obtain ⟨p, vs, rfl, hp, al⟩ := h
  exact .inl ⟨vs, s.seq hp, al.len.symm⟩
theorem len_tup {F H : Hp} {v : V} {xs : List α} (s : Same F H) (h : (rTup K Ra).r F v xs) : LenV K v H xs.length := by
  obtain ⟨p, vs, rfl, hp, al⟩ := h
  exact .inr ⟨vs, same_seqT s hp, al.len.symm⟩
theorem len_tx {S : RA α} {F H : Hp} {v : V} {a : α} (s : Same F H) (h : (rTx K S).r F v a) : LenV K v H S.n := by
  obtain ⟨p, vs, rfl, hp, al⟩ := h
  exact .inr ⟨vs, same_seqT s hp, (S.len al).symm⟩
theorem c_lenS : CaS μ (fun xs H Q => ∃ z, xs = [.str z] ∧ z.length ≤ sizeLine ∧ Q (.int z.length) H) (a1 rStr) rInt fun a => .need (a.1.length ≤ sizeLine) (.ret (a.1.length : Int)) := fun k F H c vs a Q w r q => by
  obtain ⟨v, e, r⟩ := one r
  exact ⟨a.1, by rw [e, r], q.1, VP.now w q.2 rfl⟩
theorem c_max2 : CaS μ (fun xs H Q => ∃ i j, xs = [.int i, .int j] ∧ Q (.int (if j > i then j else i)) H) (a2 rInt rInt) rInt fun a => .ret (if a.2.1 > a.1 then a.2.1 else a.1) := fun k F H c vs a Q w r q => by
  obtain ⟨v, u, e, r1, r2⟩ := two r
  exact ⟨a.1, a.2.1, by rw [e, r1, r2], VP.now w q rfl⟩
theorem c_min2 : CaS μ (fun xs H Q => ∃ i j, xs = [.int i, .int j] ∧ Q (.int (if j < i then j else i)) H) (a2 rInt rInt) rInt fun a => .ret (if a.2.1 < a.1 then a.2.1 else a.1) := fun k F H c vs a Q w r q => by
  obtain ⟨v, u, e, r1, r2⟩ := two r
  exact ⟨a.1, a.2.1, by rw [e, r1, r2], VP.now w q rfl⟩
theorem int_ls {F H : Hp} {v : V} {xs : List Int} (s : Same F H) (h : (rLs rInt).r F v xs) : ∃ p, v = .ref p ∧ SqL K H p (xs.map V.int) := by
  obtain ⟨p, vs, rfl, hp, al⟩ := h
  exact ⟨p, rfl, .of (by rw [← al.to_map V.int fun _ _ z => z]; exact s _ _ hp)⟩
theorem bl_ls {F H : Hp} {v : V} {xs : List Bool} (s : Same F H) (h : (rLs rBl).r F v xs) : ∃ p, v = .ref p ∧ SqL K H p (xs.map V.bl) := by
  obtain ⟨p, vs, rfl, hp, al⟩ := h
  exact ⟨p, rfl, .of (by rw [← al.to_map V.bl fun _ _ z => z]; exact s _ _ hp)⟩
theorem str_ls {F H : Hp} {v : V} {xs : List Str} (s : Same F H) (h : (rLs rStr).r F v xs) : ∃ p, v = .ref p ∧ SqL K H p (xs.map V.str) := by
  obtain ⟨p, vs, rfl, hp, al⟩ := h
  exact ⟨p, rfl, .of (by rw [← al.to_map V.str fun _ _ z => z]; exact s _ _ hp)⟩
theorem str_tup {F H : Hp} {v : V} {xs : List Str} (s : Same F H) (h : (rTup K rStr).r F v xs) : ∃ p, v = .ref p ∧ SqT K H p (xs.map V.str) := by
  obtain ⟨p, vs, rfl, hp, al⟩ := h
  exact ⟨p, rfl, by rw [← al.to_map V.str fun _ _ z => z]; exact same_seqT s hp⟩
theorem c_sum : CaS μ (rSum K) (a1 (rLs rInt)) rInt fun a => .ret a.1.sum := fun k F H c vs a Q w r q => by
  obtain ⟨v, e, r⟩ := one r
  obtain ⟨p, ev, hp⟩ := int_ls (K := K) w.sub r
  exact ⟨p, a.1, by rw [e, ev], hp, VP.now w q rfl⟩
theorem c_max1 : CaS μ (rMax K) (a1 (rLs rInt)) rInt fun a => .need (0 < a.1.length) (.anyOf fun m => m ∈ a.1 ∧ ∀ y ∈ a.1, y ≤ m) := fun k F H c vs a Q w r q => by
  obtain ⟨v, e, r⟩ := one r
  obtain ⟨p, ev, hp⟩ := int_ls (K := K) w.sub r
  exact ⟨p, a.1, by rw [e, ev], hp, q.1, fun m h1 h2 => VP.now w (q.2 m ⟨h1, h2⟩) rfl⟩
theorem c_min1 : CaS μ (rMin K) (a1 (rLs rInt)) rInt fun a => .need (0 < a.1.length) (.anyOf fun m => m ∈ a.1 ∧ ∀ y ∈ a.1, m ≤ y) := fun k F H c vs a Q w r q => by
  obtain ⟨v, e, r⟩ := one r
  obtain ⟨p, ev, hp⟩ := int_ls (K := K) w.sub r
  exact ⟨p, a.1, by rw [e, ev], hp, q.1, fun m h1 h2 => VP.now w (q.2 m ⟨h1, h2⟩) rfl⟩
theorem c_all : CaS μ (rAll K) (a1 (rLs rBl)) rBl fun a => .ret (a.1.all id) := fun k F H c vs a Q w r q => by
  obtain ⟨v, e, r⟩ := one r
  obtain ⟨p, ev, hp⟩ := bl_ls (K := K) w.sub r
  exact ⟨p, a.1, by rw [e, ev], hp, VP.now w q rfl⟩
theorem c_any : CaS μ (rAny K) (a1 (rLs rBl)) rBl fun a => .ret (a.1.any id) := fun k F H c vs a Q w r q => by
  obtain ⟨v, e, r⟩ := one r
  obtain ⟨p, ev, hp⟩ := bl_ls (K := K) w.sub r
  exact ⟨p, a.1, by rw [e, ev], hp, VP.now w q rfl⟩
theorem c_intI : CaS μ (fun xs H Q => (∃ i, xs = [.int i] ∧ Q (.int i) H) ∨ ∃ k, xs = [.bl k] ∧ Q (.int (if k then 1 else 0)) H) (a1 rInt) rInt fun a => .ret a.1 := fun k F H c vs a Q w r q => by
  obtain ⟨v, e, r⟩ := one r
  exact .inl ⟨a.1, by rw [e, r], VP.now w q rfl⟩
theorem c_intB : CaS μ (fun xs H Q => (∃ i, xs = [.int i] ∧ Q (.int i) H) ∨ ∃ k, xs = [.bl k] ∧ Q (.int (if k then 1 else 0)) H) (a1 rBl) rInt fun a => .ret (if a.1 = true then 1 else 0) := fun k F H c vs a Q w r q => by
  obtain ⟨v, e, r⟩ := one r
  exact .inr ⟨a.1, by rw [e, r], VP.now w q rfl⟩
theorem c_listL : CaN μ (fun xs H Q => ∃ p ys, xs = [.ref p] ∧ (SqL K H p ys ∨ SqT K H p ys) ∧ ∀ l, H l = none → Q (.ref l) (upd H l (.lst ys))) (a1 (rLs Ra)) Ra fun a => .ret a.1 := fun k F H c vs a Q w r q => by
  obtain ⟨v, e, p, ys, ev, hp, al⟩ := one r
  exact ⟨p, ys, by rw [e, ev], .inl (.of (w.sub _ _ hp)), fun l n => VN.newL w q n al⟩
theorem c_listT : CaN μ (fun xs H Q => ∃ p ys, xs = [.ref p] ∧ (SqL K H p ys ∨ SqT K H p ys) ∧ ∀ l, H l = none → Q (.ref l) (upd H l (.lst ys))) (a1 (rTup K Ra)) Ra fun a => .ret a.1 := fun k F H c vs a Q w r q => by
  obtain ⟨v, e, p, ys, ev, hp, al⟩ := one r
  exact ⟨p, ys, by rw [e, ev], .inr (same_seqT w.sub hp), fun l n => VN.newL w q n al⟩
theorem c_tupL : CaS μ (fun xs H Q => ∃ p ys, xs = [.ref p] ∧ ((SqL K H p ys ∧ ∀ l, H l = none → Q (.ref l) (upd H l (.tup ys))) ∨ (SqT K H p ys ∧ Q (.ref p) H))) (a1 (rLs Ra)) (rTup K Ra) fun a => .ret a.1 := fun k F H c vs a Q w r q => by
  obtain ⟨v, e, p, ys, ev, hp, al⟩ := one r
  exact ⟨p, ys, by rw [e, ev], .inl ⟨.of (w.sub _ _ hp), fun l n => VP.newT w q n fun s => ⟨l, ys, rfl, .of upd_same, al.imp fun _ _ g => Ra.st s g⟩⟩⟩
theorem c_tupT : CaS μ (fun xs H Q => ∃ p ys, xs = [.ref p] ∧ ((SqL K H p ys ∧ ∀ l, H l = none → Q (.ref l) (upd H l (.tup ys))) ∨ (SqT K H p ys ∧ Q (.ref p) H))) (a1 (rTup K Ra)) (rTup K Ra) fun a => .ret a.1 := fun k F H c vs a Q w r q => by
  obtain ⟨v, e, r⟩ := one r
  have r' := r
  obtain ⟨p, ys, ev, hp, al⟩ := r'
  exact ⟨p, ys, by rw [e, ev], .inr ⟨same_seqT w.sub hp, by rw [← ev]; exact VP.now w q r⟩⟩
theorem c_sortI : CaN μ (rSorted K) (a1 (rLs rInt)) rInt fun a => .need (a.1.length < 64) (.anyOf fun b => b.Perm a.1 ∧ b.Pairwise (· ≤ ·)) := fun k F H c vs a Q w r q => by
  obtain ⟨v, e, r⟩ := one r
  obtain ⟨p, ev, hp⟩ := int_ls (K := K) w.sub r
  exact ⟨p, a.1, by rw [e, ev], hp, q.1, fun ns p h1 h2 n => VN.newL w (q.2 ns ⟨h1, h2⟩) n (All2.of_map (β := Unit) V.int (fun _ => rfl) ns)⟩
theorem c_sortS : CaN μ (rSortedS K) (a1 (rLs rStr)) rStr fun a => .need (a.1.length < 64) (.anyOf fun b => b.Perm a.1 ∧ sortedS b = true) := fun k F H c vs a Q w r q => by
  obtain ⟨v, e, r⟩ := one r
  obtain ⟨p, ev, hp⟩ := str_ls (K := K) w.sub r
  exact ⟨p, a.1, by rw [e, ev], hp, q.1, fun ns p h1 h2 n => VN.newL w (q.2 ns ⟨h1, h2⟩) n (All2.of_map (β := Unit) V.str (fun _ => rfl) ns)⟩
theorem c_strI : CaS μ (fun xs H Q => ∃ i, xs = [.int i] ∧ i.natAbs.log2 < 1920 ∧ Q (.str (toString i)) H) (a1 rInt) rStr fun a => .need (a.1.natAbs.log2 < 1920) (.ret (toString a.1)) := fun k F H c vs a Q w r q => by
  obtain ⟨v, e, r⟩ := one r
  exact ⟨a.1, by rw [e, r], q.1, VP.now w q.2 rfl⟩
theorem c_strS : CaS μ (fun xs H Q => ∃ a, xs = [.str a] ∧ Q (.str a) H) (a1 rStr) rStr fun a => .ret a.1 := fun k F H c vs a Q w r q => by
  obtain ⟨v, e, r⟩ := one r
  exact ⟨a.1, by rw [e, r], VP.now w q rfl⟩
theorem c_repr {d : α → PyData} {n : Nat} (hd : DpR K Ra d n) : CaS μ (rRepr K) (a1 Ra) rStr fun a => .need ((d a.1).showable = true ∧ (d a.1).hasDict = false ∧ (d a.1).shown.length ≤ sizeLine ∧ (d a.1).depth ≤ 64) (.ret (d a.1).shown) := fun k F H c vs a Q w r q => by
  obtain ⟨v, e, r⟩ := one r
  exact ⟨v, d a.1, e, Dp.same w.sub (hd.dp r), q.1.1, q.1.2.1, q.1.2.2.1, q.1.2.2.2, VP.now w q.2 rfl⟩
/-! ### data -/
theorem dp_int : DpR K rInt .int 0 := ⟨fun h => by subst h; exact .int _, fun _ => by simp [PyData.depth]⟩
theorem dp_bl : DpR K rBl .bool 0 := ⟨fun h => by subst h; exact .bl _, fun _ => by simp [PyData.depth]⟩
theorem dp_str : DpR K rStr .str 0 := ⟨fun h => by subst h; exact .str _, fun _ => by simp [PyData.depth]⟩
theorem dp_non : DpR K rNon (fun _ => .none) 0 := ⟨fun h => by subst h; exact .non, fun _ => by simp [PyData.depth]⟩
theorem dps_of {d : α → PyData} {n : Nat} (hd : DpR K Ra d n) {F : Hp} {vs : List V} {xs : List α} (al : All2 (Ra.r F) vs xs) : DpAll K F vs (xs.map d) := by
  induction al with
  | nil => exact .nil
  | cons h _ ih => exact .cons (hd.dp h) ih
theorem deep_all {d : α → PyData} {n : Nat} (h : ∀ a, (d a).depth ≤ n) : ∀ xs : List α, PyData.depthAll (xs.map d) ≤ n
  | [] => by simp [PyData.depthAll]
  | x :: xs => by
    show PyData.depthAll (d x :: xs.map d) ≤ n
    rw [PyData.depthAll]
    exact Nat.max_le.mpr ⟨h x, deep_all h xs⟩
theorem dp_ls {d : α → PyData} {n : Nat} (hd : DpR K Ra d n) : DpR K (rLs Ra) (fun xs => .list (xs.map d)) (n + 1) := ⟨fun ⟨p, vs, e, hp, al⟩ => by subst e; exact .lst (.of hp) (dps_of hd al), fun xs => by rw [PyData.depth]; exact Nat.succ_le_succ (deep_all hd.deep xs)⟩
theorem dp_tup {d : α → PyData} {n : Nat} (hd : DpR K Ra d n) : DpR K (rTup K Ra) (fun xs => .tuple (xs.map d)) (n + 1) := ⟨fun ⟨p, vs, e, hp, al⟩ => by subst e; exact .tup hp (dps_of hd al), fun xs => by rw [PyData.depth]; exact Nat.succ_le_succ (deep_all hd.deep xs)⟩
structure DpA (K : PySem.W.Frag) (S : RA α) (d : α → List PyData) (n : Nat) : Prop where
  dp : ∀ {F : Hp} {vs : List V} {a : α}, S.r F vs a → DpAll K F vs (d a)
  deep : ∀ a, PyData.depthAll (d a) ≤ n
theorem dpa_nil : DpA K aNil (fun _ => []) 0 := ⟨fun h => by subst h; exact .nil, fun _ => by simp [PyData.depthAll]⟩
theorem dpa_cons {d : α → PyData} {ds : β → List PyData} {S : RA β} {n m : Nat} (h : DpR K Ra d n) (hs : DpA K S ds m) : DpA K (aCons Ra S) (fun a => d a.1 :: ds a.2) (max n m) := ⟨fun ⟨v, ws, e, r, t⟩ => by subst e; exact .cons (h.dp r) (hs.dp t), fun a => by
  rw [PyData.depthAll]
  have := h.deep a.1
  have := hs.deep a.2
  omega⟩
theorem dp_tx {S : RA α} {ds : α → List PyData} {n : Nat} (h : DpA K S ds n) : DpR K (rTx K S) (fun a => .tuple (ds a)) (n + 1) := ⟨fun ⟨p, vs, e, hp, r⟩ => by subst e; exact .tup hp (h.dp r), fun a => by rw [PyData.depth]; exact Nat.succ_le_succ (h.deep a)⟩
theorem all2_nilR {f : V → α → Prop} {vs : List V} (h : All2 f vs []) : vs = [] := by cases h; rfl
theorem o_eqNil : OpS μ (rEqD K) (rLs Ra) (rLs Rb) rBl fun xs ys => .need (xs = [] ∧ ys = []) (.ret true) := fun k F H c x y xs ys Q w ⟨p, vs, e, hp, al⟩ ⟨p2, vs2, e2, hp2, al2⟩ ⟨⟨q1, q2⟩, q⟩ => by
  subst q1 q2 e e2
  rw [all2_nilR al] at hp
  rw [all2_nilR al2] at hp2
  exact ⟨.list [], .list [], .lst (.of (w.sub _ _ hp)) .nil, .lst (.of (w.sub _ _ hp2)) .nil, rfl, rfl, VP.now w q rfl⟩
theorem o_neNil : OpS μ (rNeD K) (rLs Ra) (rLs Rb) rBl fun xs ys => .need (xs = [] ∧ ys = []) (.ret false) := fun k F H c x y xs ys Q w ⟨p, vs, e, hp, al⟩ ⟨p2, vs2, e2, hp2, al2⟩ ⟨⟨q1, q2⟩, q⟩ => by
  subst q1 q2 e e2
  rw [all2_nilR al] at hp
  rw [all2_nilR al2] at hp2
  exact ⟨.list [], .list [], .lst (.of (w.sub _ _ hp)) .nil, .lst (.of (w.sub _ _ hp2)) .nil, rfl, rfl, VP.now w q rfl⟩
/-! ### slices -/
def SO (μ : Md) (E : EV Γ) (to : TO) (m : Γ → M (Option Int)) : Prop := ∀ (k : Cn) (F H : Hp) (σ : L2.St) (ρ : Γ) (c : Nat) (Q : Option Int → Hp → Prop), Wo k F H c → EI k E F H σ ρ → (m ρ).wp c (fun o c' => ∀ F' H', ExtX k.p F H F' H' → Wo k F' H' c' → Q o H') (XP μ k) → to σ H Q
theorem so_none : SO μ E tNoPart fun _ => .ret none := fun k F H σ ρ c Q w e q => q F H (ExtX.refl w.sub) w
theorem so_some {te : TE} {m : Γ → M Int} (h : SE μ E rInt te m) : SO μ E (tPart te) fun ρ => (m ρ).bind fun i => .ret (some i) := fun k F H σ ρ c Q w e q => h k F H σ ρ c _ w e (wp_imp q fun i c1 z v F1 H1 x1 w1 r => ⟨i, r, z F1 H1 x1 w1⟩)
def SlN (μ : Md) (r : V → Option Int → Option Int → Hp → VK → Prop) (Ra : Rp α) (R : Rp γ) (mf : α → Option Int → Option Int → M (List γ)) : Prop := ∀ (k : Cn) (F H : Hp) (c : Nat) (x : V) (a : α) (lo hi : Option Int) (Q : VK), Wo k F H c → Ra.r F x a → (mf a lo hi).wp c (VN k F H R Q) (XP μ k) → r x lo hi H Q
def SlS (μ : Md) (r : V → Option Int → Option Int → Hp → VK → Prop) (Ra : Rp α) (R : Rp γ) (mf : α → Option Int → Option Int → M γ) : Prop := ∀ (k : Cn) (F H : Hp) (c : Nat) (x : V) (a : α) (lo hi : Option Int) (Q : VK), Wo k F H c → Ra.r F x a → (mf a lo hi).wp c (VP k F H R Q) (XP μ k) → r x lo hi H Q
theorem n_sl {r : V → Option Int → Option Int → Hp → VK → Prop} {te : TE} {tl th : TO} {m : Γ → M α} {ml mh : Γ → M (Option Int)} {mf : α → Option Int → Option Int → M (List γ)} (hr : SlN μ r Ra R mf) (he : SE μ E Ra te m) (hl : SO μ E tl ml) (hh : SO μ E th mh) :
    SN μ E R (tSl r te tl th) fun ρ => (m ρ).bind fun a => (ml ρ).bind fun lo => (mh ρ).bind fun hi => mf a lo hi := fun k F H σ ρ c Q w e h =>
  he k F H σ ρ c _ w e (wp_imp h fun a c1 q v F1 H1 x1 w1 r1 => hl k F1 H1 σ ρ c1 _ w1 (e.step x1) (wp_imp q fun lo c2 q F2 H2 x2 w2 => hh k F2 H2 σ ρ c2 _ w2 (e.step (x1.trans x2)) (wp_imp q fun hi c3 q F3 H3 x3 w3 =>
    hr k F3 H3 c3 v a lo hi Q w3 (Ra.st (x2.fz.trans x3.fz) r1) (wp_imp q fun _ _ z => VN.ext ((x1.trans x2).trans x3) z))))
theorem e_sl {r : V → Option Int → Option Int → Hp → VK → Prop} {te : TE} {tl th : TO} {m : Γ → M α} {ml mh : Γ → M (Option Int)} {mf : α → Option Int → Option Int → M γ} (hr : SlS μ r Ra R mf) (he : SE μ E Ra te m) (hl : SO μ E tl ml) (hh : SO μ E th mh) :
    SE μ E R (tSl r te tl th) fun ρ => (m ρ).bind fun a => (ml ρ).bind fun lo => (mh ρ).bind fun hi => mf a lo hi := fun k F H σ ρ c Q w e h =>
  he k F H σ ρ c _ w e (wp_imp h fun a c1 q v F1 H1 x1 w1 r1 => hl k F1 H1 σ ρ c1 _ w1 (e.step x1) (wp_imp q fun lo c2 q F2 H2 x2 w2 => hh k F2 H2 σ ρ c2 _ w2 (e.step (x1.trans x2)) (wp_imp q fun hi c3 q F3 H3 x3 w3 =>
    hr k F3 H3 c3 v a lo hi Q w3 (Ra.st (x2.fz.trans x3.fz) r1) (wp_imp q fun _ _ z => VP.ext ((x1.trans x2).trans x3) z))))
/-- xs[lo:hi] -/
def cutL (xs : List α) (lo hi : Option Int) : List α := (xs.drop (HT.sIx xs.length 0 lo)).take (HT.sIx xs.length xs.length hi - HT.sIx xs.length 0 lo)
theorem All2.cut {f : V → α → Prop} {vs : List V} {xs : List α} (h : All2 f vs xs) (lo hi : Option Int) : All2 f (cutV vs lo hi) (cutL xs lo hi) := by
  unfold cutV cutL
  rw [h.len]
  exact (h.drop _).take _
theorem sl_L : SlN μ (rSlL K) (rLs Ra) Ra fun xs lo hi => .ret (cutL xs lo hi) := fun k F H c x xs lo hi Q w ⟨p, vs, e, hp, al⟩ q => ⟨p, vs, e, .of (w.sub _ _ hp), fun l n => VN.newL w q n (al.cut lo hi)⟩
theorem sl_Lst : SlN μ (rSlL K) (rLst K Ra) Ra fun xs lo hi => .ret (cutL xs lo hi) := fun k F H c x xs lo hi Q w ⟨p, vs, e, hp, al⟩ q => ⟨p, vs, e, w.sub.seq hp, fun l n => VN.newL w q n (al.cut lo hi)⟩
theorem cutL_whole {xs : List α} {lo hi : Option Int} (h : HT.sIx xs.length 0 lo = 0 ∧ HT.sIx xs.length xs.length hi = xs.length) : cutL xs lo hi = xs := by
  unfold cutL
  rw [h.1, h.2, List.drop_zero, Nat.sub_zero, List.take_length]
theorem sl_T : SlS μ (rSlA K) (rTup K Ra) (rTup K Ra) fun xs lo hi => .ret (cutL xs lo hi) := fun k F H c x xs lo hi Q w r q => by
  have r' := r
  obtain ⟨p, vs, e, hp, al⟩ := r'
  refine ⟨p, vs, e, same_seqT w.sub hp, fun z => ?_, fun z l n => VP.newT w q n fun s => ⟨l, _, rfl, .of upd_same, (al.cut lo hi).imp fun _ _ g => Ra.st s g⟩⟩
  rw [al.len] at z
  rw [← e]
  refine VP.now w q ?_
  rw [cutL_whole z]
  exact r
theorem sl_S : SlS μ rSlS rStr rStr fun z lo hi => .need (z.length ≤ sizeLine) (.ret (cutS z lo hi)) := fun k F H c x z lo hi Q w r q => ⟨z, r, q.1, VP.now w q.2 rfl⟩
/-! ### + * in -/
theorem o_catL : OpN μ rCat (rLs Ra) (rLs Ra) Ra fun xs ys => .need (xs.length + ys.length ≤ sizeLine) (.ret (xs ++ ys)) := fun k F H c x y xs ys Q w ⟨p, vs, e, hp, al⟩ ⟨p2, vs2, e2, hp2, al2⟩ q =>
  ⟨p, p2, vs, vs2, e, e2, w.sub _ _ hp, w.sub _ _ hp2, by rw [al.len, al2.len]; exact q.1, fun l n => VN.newL w q.2 n (al.append al2)⟩
theorem all2_nil {f : V → α → Prop} {xs : List α} (h : All2 f [] xs) : xs = [] := by cases h; rfl
theorem o_catT : OpS μ (rCatA K) (rTup K Ra) (rTup K Ra) (rTup K Ra) fun xs ys => .need (xs.length + ys.length ≤ sizeLine) (.ret (xs ++ ys)) := fun k F H c x y xs ys Q w r r2 q => by
  have r' := r
  have r2' := r2
  obtain ⟨p, vs, e, hp, al⟩ := r'
  obtain ⟨p2, vs2, e2, hp2, al2⟩ := r2'
  refine ⟨p, p2, vs, vs2, e, e2, same_seqT w.sub hp, same_seqT w.sub hp2, by rw [al.len, al2.len]; exact q.1, fun z => ?_, fun z1 z => ?_, fun z1 z2 l n => VP.newT w q.2 n fun s => ⟨l, _, rfl, .of upd_same, (al.append al2).imp fun _ _ g => Ra.st s g⟩⟩
  · subst z
    rw [← e2]
    refine VP.now w q.2 ?_
    rw [all2_nil al]; exact r2
  · subst z
    rw [← e]
    refine VP.now w q.2 ?_
    rw [all2_nil al2, List.append_nil]; exact r
theorem o_addS : OpS μ (fun x y H Q => ∃ i j, x = .str i ∧ y = .str j ∧ i.length + j.length ≤ sizeLine ∧ Q (.str (i ++ j)) H) rStr rStr rStr fun a b => .need (a.length + b.length ≤ sizeLine) (.ret (a ++ b)) := fun k F H c x y a b Q w r r2 q => ⟨a, b, r, r2, q.1, VP.now w q.2 rfl⟩
structure FlR (R : Rp α) [DecidableEq α] : Prop where
  fl : ∀ {F : Hp} {v : V} {a : α}, R.r F v a → flatV v = true
  eq : ∀ {F : Hp} {v w : V} {a b : α}, R.r F v a → R.r F w b → eqV v w = decide (a = b)
theorem fl_int : FlR rInt := ⟨fun h => by subst h; rfl, fun h k => by subst h k; rfl⟩
theorem fl_str : FlR rStr := ⟨fun h => by subst h; rfl, fun {_ _ _ a b} h k => by subst h k; show (a == b) = decide (a = b); by_cases z : a = b <;> simp [z]⟩
theorem in_all [DecidableEq α] (fl : FlR Ra) {F : Hp} {v : V} {a : α} (h : Ra.r F v a) {vs : List V} {xs : List α} (al : All2 (Ra.r F) vs xs) : vs.all flatV = true ∧ inV v vs = decide (a ∈ xs) := by
  induction al with
  | nil => exact ⟨rfl, by simp [inV]⟩
  | @cons u b us bs hu _ ih =>
    refine ⟨by rw [List.all_cons, fl.fl hu, ih.1]; rfl, ?_⟩
    show (eqV u v || inV v us) = decide (a ∈ b :: bs)
    rw [ih.2, fl.eq hu h]
    by_cases z : b = a
    · subst z; simp
    · simp [z, Ne.symm z]
theorem o_in [DecidableEq α] (fl : FlR Ra) {Rl : Rp (List α)} (hl : ∀ {F H : Hp} {v : V} {xs : List α}, Same F H → Rl.r F v xs → ∃ p vs, v = .ref p ∧ (SqL K H p vs ∨ SqT K H p vs) ∧ All2 (Ra.r F) vs xs) : OpS μ (rIn K false) Ra Rl rBl fun a xs => .ret (decide (a ∈ xs)) := fun k F H c x y a xs Q w r r2 q => by
  obtain ⟨p, vs, e, hp, al⟩ := hl w.sub r2
  obtain ⟨h1, h2⟩ := in_all fl r al
  exact ⟨p, vs, e, hp, fl.fl r, h1, VP.now w q (by show V.bl _ = V.bl _; rw [if_neg Bool.false_ne_true, h2])⟩
theorem o_notIn [DecidableEq α] (fl : FlR Ra) {Rl : Rp (List α)} (hl : ∀ {F H : Hp} {v : V} {xs : List α}, Same F H → Rl.r F v xs → ∃ p vs, v = .ref p ∧ (SqL K H p vs ∨ SqT K H p vs) ∧ All2 (Ra.r F) vs xs) : OpS μ (rIn K true) Ra Rl rBl fun a xs => .ret (!decide (a ∈ xs)) := fun k F H c x y a xs Q w r r2 q => by
  obtain ⟨p, vs, e, hp, al⟩ := hl w.sub r2
  obtain ⟨h1, h2⟩ := in_all fl r al
  exact ⟨p, vs, e, hp, fl.fl r, h1, VP.now w q (by show V.bl _ = V.bl _; rw [if_pos rfl, h2])⟩
theorem sq_ls {F H : Hp} {v : V} {xs : List α} (s : Same F H) (h : (rLs Ra).r F v xs) : ∃ p vs, v = .ref p ∧ (SqL K H p vs ∨ SqT K H p vs) ∧ All2 (Ra.r F) vs xs := by
  obtain ⟨p, vs, e, hp, al⟩ := h
  exact ⟨p, vs, e, .inl (.of (s _ _ hp)), al⟩
theorem sq_tup {F H : Hp} {v : V} {xs : List α} (s : Same F H) (h : (rTup K Ra).r F v xs) : ∃ p vs, v = .ref p ∧ (SqL K H p vs ∨ SqT K H p vs) ∧ All2 (Ra.r F) vs xs := by
  obtain ⟨p, vs, e, hp, al⟩ := h
  exact ⟨p, vs, e, .inr (same_seqT s hp), al⟩
/-! ### lists of one's own, written and read -/
theorem tyL {p : Addr} {vs : List V} {H : Hp} (h : H p = some (.lst vs)) : tyV K "list" (.ref p) H := .inl ⟨rfl, vs, .of h⟩
/-- xs.append(e) -/
theorem s_append {i : Nat} {g : Γ → List α} {put : Γ → List α → Γ} {te : TE} {m : Γ → M α} (hm : ModS E i Ra g put) (he : SE μ E Ra te m) :
    SS μ E E El R (tDrop (tBM K "list" rAppend (tVar i) (tCons te tNil))) fun ρ => (m ρ).bind fun a => .need ((g ρ).length < sizeLine) (.ret (.nx (put ρ (g ρ ++ [a])))) := fun k F H σ ρ c D w e h => by
  obtain ⟨p, vs, h1, h2, h3, h4⟩ := hm.get e.r
  obtain ⟨_, f0, n0, np⟩ := E.has e.r h4
  refine ⟨.ref p, h1, tyL h2, he k F H σ ρ c _ w e (wp_imp h fun a c1 ⟨q1, q⟩ v F1 H1 x1 w1 r1 => ?_)⟩
  have hp1 := x1.hp p _ np h2
  have f1 : F1 p = none := (x1.old p (some_ne h2)).trans f0
  have al := h3.imp fun _ _ g => Ra.st x1.fz g
  refine ⟨p, vs, v, rfl, rfl, hp1, by rw [h3.len]; exact q1, q F1 _ σ x1.fz (w1.mod n0 f1) ⟨hm.mod (E.step x1 e.r) e.nd h1 (al.snoc r1), e.nd⟩⟩
/-- xs[i] = e -/
theorem s_setitem {i : Nat} {g : Γ → List α} {put : Γ → List α → Γ} {te ti : TE} {m : Γ → M α} {mi : Γ → M Int} (hm : ModS E i Ra g put) (he : SE μ E Ra te m) (hi : SE μ E rInt ti mi) :
    SS μ E E El R (tAsg te (gSub (tVar i) ti rSetL)) fun ρ => (m ρ).bind fun a => (mi ρ).bind fun j => .bind (.the (ixN (g ρ).length j)) fun n => .ret (.nx (put ρ ((g ρ).set n a))) := fun k F H σ ρ c D w e h => by
  refine he k F H σ ρ c _ w e (wp_imp h fun a c1 q v F1 H1 x1 w1 r1 => ?_)
  have e1 := e.step x1
  obtain ⟨p, vs, h1, h2, h3, h4⟩ := hm.get e1.r
  obtain ⟨_, f0, n0, np⟩ := E.has e1.r h4
  refine ⟨.ref p, h1, hi k F1 H1 σ ρ c1 _ w1 e1 (wp_imp q fun j c2 ⟨n, en, q⟩ u F2 H2 x2 w2 r2 => ?_)⟩
  have hp2 := x2.hp p _ np h2
  have f2 : F2 p = none := (x2.old p (some_ne h2)).trans f0
  have al := h3.imp fun _ _ g => Ra.st x2.fz g
  exact ⟨p, vs, j, n, rfl, r2, hp2, by rw [h3.len]; exact en, q F2 _ σ (x1.fz.trans x2.fz) (w2.mod n0 f2) ⟨hm.mod (E.step x2 e1.r) e.nd h1 (al.set n (Ra.st x2.fz r1)), e.nd⟩⟩
/-- x = xs.pop(i) -/
theorem s_popAt {i j : Nat} {g : Γ → List α} {put : Γ → List α → Γ} {put' : Γ → α → Γ'} {ti : TE} {mi : Γ → M Int} (hm : ModS E i Ra g put) (hi : SE μ E rInt ti mi) (hp : PutS E j (sVal Ra) E' put') :
    SS μ E E' El R (tAsg (tBM K "list" rPopAt (tVar i) (tCons ti tNil)) (gName j)) fun ρ => (mi ρ).bind fun n => .need ((g ρ).length ≤ 2 ^ 62 ∧ 0 ≤ n) (.bind (.the (g ρ)[n.toNat]?) fun a => .ret (.nx (put' (put ρ ((g ρ).eraseIdx n.toNat)) a))) := fun k F H σ ρ c D w e h => by
  obtain ⟨p, vs, h1, h2, h3, h4⟩ := hm.get e.r
  obtain ⟨_, f0, n0, np⟩ := E.has e.r h4
  refine ⟨.ref p, h1, tyL h2, hi k F H σ ρ c _ w e (wp_imp h fun n c1 ⟨⟨q1, q2⟩, a, ea, q⟩ v F1 H1 x1 w1 r1 => ?_)⟩
  have hp1 := x1.hp p _ np h2
  have f1 : F1 p = none := (x1.old p (some_ne h2)).trans f0
  have al := h3.imp fun _ _ g => Ra.st x1.fz g
  obtain ⟨u, hu, ru⟩ := al.get ea
  have hn : n.toNat < (g ρ).length := (List.getElem?_eq_some_iff.mp ea).1
  have sq : seqIndex? n vs.length = some n.toNat := seqIndex_of q2 (by rw [h3.len]; omega)
  have e1 : EI k E F1 (upd H1 p (.lst (vs.eraseIdx n.toNat))) σ (put ρ ((g ρ).eraseIdx n.toNat)) := ⟨hm.mod (E.step x1 e.r) e.nd h1 (al.erase _), e.nd⟩
  refine ⟨p, vs, n, n.toNat, u, rfl, by rw [r1], hp1, by omega, by omega, sq, hu, ?_⟩
  exact q F1 _ _ x1.fz (w1.mod n0 f1) ⟨hp.put e1.r ⟨u, rfl, ru⟩, hp.nd e1.nd fun _ z => nomatch z⟩
/-- xs.append(ys.pop(i)) -/
theorem s_appendPop {i j : Nat} {g g' : Γ → List α} {put put' : Γ → List α → Γ} {ti : TE} {mi : Γ → M Int} (hm : ModS E i Ra g put) (hm' : ModS E j Ra g' put') (hgg : ∀ ρ xs, g (put' ρ xs) = g ρ) (hi : SE μ E rInt ti mi) :
    SS μ E E El R (tDrop (tBM K "list" rAppend (tVar i) (tCons (tBM K "list" rPopAt (tVar j) (tCons ti tNil)) tNil))) fun ρ => (mi ρ).bind fun n => .need ((g' ρ).length ≤ 2 ^ 62 ∧ 0 ≤ n) (.bind (.the (g' ρ)[n.toNat]?) fun a => .need ((g ρ).length < sizeLine) (.ret (.nx (put (put' ρ ((g' ρ).eraseIdx n.toNat)) (g ρ ++ [a]))))) := fun k F H σ ρ c D w e h => by
  obtain ⟨p0, vs0, h01, h02, h03, h04⟩ := hm.get e.r
  obtain ⟨p, vs, h1, h2, h3, h4⟩ := hm'.get e.r
  obtain ⟨_, f0, n0, np⟩ := E.has e.r h4
  refine ⟨.ref p0, h01, tyL h02, .ref p, h1, tyL h2, hi k F H σ ρ c _ w e (wp_imp h fun n c1 ⟨⟨q1, q2⟩, a, ea, q3, q⟩ v F1 H1 x1 w1 r1 => ?_)⟩
  have hp1 := x1.hp p _ np h2
  have f1 : F1 p = none := (x1.old p (some_ne h2)).trans f0
  have al := h3.imp fun _ _ g => Ra.st x1.fz g
  obtain ⟨u, hu, ru⟩ := al.get ea
  have hn : n.toNat < (g' ρ).length := (List.getElem?_eq_some_iff.mp ea).1
  have sq : seqIndex? n vs.length = some n.toNat := seqIndex_of q2 (by rw [h3.len]; omega)
  have e1 : EI k E F1 (upd H1 p (.lst (vs.eraseIdx n.toNat))) σ (put' ρ ((g' ρ).eraseIdx n.toNat)) := ⟨hm'.mod (E.step x1 e.r) e.nd h1 (al.erase _), e.nd⟩
  have w2 := w1.mod (o := .lst (vs.eraseIdx n.toNat)) n0 f1
  refine ⟨p, vs, n, n.toNat, u, rfl, by rw [r1], hp1, by omega, by omega, sq, hu, ?_⟩
  obtain ⟨p2, vs2, g1, g2, g3, g4⟩ := hm.get e1.r
  obtain ⟨_, f2, n2, _⟩ := E.has e1.r g4
  rw [h01] at g1
  obtain rfl : p0 = p2 := by cases g1; rfl
  rw [hgg] at g3
  refine ⟨p0, vs2, u, rfl, rfl, g2, by rw [g3.len]; exact q3, q F1 _ σ x1.fz (w2.mod n2 f2) ⟨hm.mod e1.r e.nd h01 (g3.snoc ru), e.nd⟩⟩
/-- a, b = e, f -/
theorem s_par {i j : Nat} {ta tb : TE} {ma : Γ → M α} {mb : Γ → M β} {put : Γ → α → Γ'} {put' : Γ' → β → Γ''} (ha : SE μ E Ra ta ma) (hb : SE μ E Rb tb mb) (hp : PutS E i (sVal Ra) E' put) (hp' : PutS E' j (sVal Rb) E'' put') :
    SS μ E E'' El R (tPar i j (tCons ta (tCons tb tNil))) fun ρ => (ma ρ).bind fun a => (mb ρ).bind fun b => .ret (.nx (put' (put ρ a) b)) := fun k F H σ ρ c D w e h =>
  ha k F H σ ρ c _ w e (wp_imp h fun a c1 q v F1 H1 x1 w1 r1 => hb k F1 H1 σ ρ c1 _ w1 (e.step x1) (wp_imp q fun b c2 q u F2 H2 x2 w2 r2 => by
    have e2 := (e.step x1).step x2
    have e3 : EI k E' F2 H2 (σ.set i (some v)) (put ρ a) := ⟨hp.put e2.r ⟨v, rfl, Ra.st x2.fz r1⟩, hp.nd e2.nd fun _ z => nomatch z⟩
    exact ⟨v, u, rfl, q F2 H2 _ (x1.fz.trans x2.fz) w2 ⟨hp'.put e3.r ⟨u, rfl, r2⟩, hp'.nd e3.nd fun _ z => nomatch z⟩⟩))
/-- what is stored: a value, or a new list of one's own -/
def SV (μ : Md) (E : EV Γ) (S : SR α) (te : TE) (m : Γ → M α) : Prop := ∀ (k : Cn) (F H : Hp) (σ : L2.St) (ρ : Γ) (c : Nat) (Q : VK), Wo k F H c → EI k E F H σ ρ →
  (m ρ).wp c (fun a c' => ∀ v F' H', ExtX k.p F H F' H' → Wo k F' H' c' → S.r k.p k.H0 F' H' (some v) a → (∀ D, S.own (some v) = some D → H D = none) → Q v H') (XP μ k) → te σ H Q
theorem sv_e {te : TE} {m : Γ → M α} (h : SE μ E Ra te m) : SV μ E (sVal Ra) te m := fun k F H σ ρ c Q w e q => h k F H σ ρ c Q w e (wp_imp q fun _ _ z v F' H' x w' r => z v F' H' x w' ⟨v, rfl, r⟩ fun _ z => nomatch z)
theorem sv_n {te : TE} {m : Γ → M (List α)} (h : SN μ E Ra te m) : SV μ E (sOwn Ra) te m := fun k F H σ ρ c Q w e q => h k F H σ ρ c Q w e (wp_imp q fun _ _ z D vs F' H' x w' n n0 hD f t => z _ F' H' x w' ⟨D, vs, rfl, hD, t, f, n0, w'.np n0⟩ fun D' z => by cases z; exact n)
theorem s_parV {S : SR α} {T : SR β} {i j : Nat} {ta tb : TE} {ma : Γ → M α} {mb : Γ → M β} {put : Γ → α → Γ'} {put' : Γ' → β → Γ''} (ha : SV μ E S ta ma) (hb : SV μ E T tb mb) (hp : PutS E i S E' put) (hp' : PutS E' j T E'' put') :
    SS μ E E'' El R (tPar i j (tCons ta (tCons tb tNil))) fun ρ => (ma ρ).bind fun a => (mb ρ).bind fun b => .ret (.nx (put' (put ρ a) b)) := fun k F H σ ρ c D w e h =>
  ha k F H σ ρ c _ w e (wp_imp h fun a c1 q v F1 H1 x1 w1 r1 o1 => hb k F1 H1 σ ρ c1 _ w1 (e.step x1) (wp_imp q fun b c2 q u F2 H2 x2 w2 r2 o2 => by
    have e2 := (e.step x1).step x2
    have r1' := S.step x2 r1
    have e3 : EI k E' F2 H2 (σ.set i (some v)) (put ρ a) := ⟨hp.put e2.r r1', hp.nd e2.nd fun D' z y => absurd (o1 D' z) (E.has e.r y).1⟩
    refine ⟨v, u, rfl, q F2 H2 _ (x1.fz.trans x2.fz) w2 ⟨hp'.put e3.r r2, hp'.nd e3.nd fun D' z y => ?_⟩⟩
    have n1 := o2 D' z
    rcases hp.sub y with y | y
    · exact absurd n1 ((E.has (e.step x1).r y).1)
    · exact absurd n1 (S.has r1 y).1))
/-- x += e -/
theorem s_aug {i : Nat} {f : Int → Int → Int} {te : TE} {me : Γ → M Int} {g : Γ → Int} {put : Γ → Int → Γ} (hg : GetS E i (sVal rInt) g) (he : SE μ E rInt te me) (hp : PutS E i (sVal rInt) E put) : SS μ E E El R (tAug i te (ipI f)) fun ρ => (me ρ).bind fun a => .ret (.nx (put ρ (f (g ρ) a))) := fun k F H σ ρ c D w e h => by
  obtain ⟨o, h1, v, rfl, r⟩ := hg.get e.r
  refine ⟨v, h1, he k F H σ ρ c _ w e (wp_imp h fun a c1 q u F1 H1 x1 w1 r1 => ?_)⟩
  have e1 := e.step x1
  exact ⟨g ρ, a, r, r1, q F1 H1 _ x1.fz w1 ⟨hp.put e1.r ⟨_, rfl, rfl⟩, hp.nd e1.nd fun _ z => nomatch z⟩⟩
/-- a list of one's own, read: its length, an item -/
theorem e_lenO {i : Nat} {g : Γ → List α} {put : Γ → List α → Γ} (hm : ModS E i Ra g put) : SE μ E rInt (tCB (fun xs H Q => ∃ x n, xs = [x] ∧ LenV K x H n ∧ Q (.int n) H) (tCons (tVar i) tNil)) fun ρ => .ret ((g ρ).length : Int) := fun k F H σ ρ c Q w e q => by
  obtain ⟨p, vs, h1, h2, h3, h4⟩ := hm.get e.r
  exact ⟨.ref p, h1, .ref p, (g ρ).length, rfl, .inl ⟨vs, .of h2, h3.len.symm⟩, VP.now w q rfl⟩
theorem e_ixO {i : Nat} {g : Γ → List α} {put : Γ → List α → Γ} {ti : TE} {mi : Γ → M Int} (hm : ModS E i Ra g put) (hi : SE μ E rInt ti mi) : SE μ E Ra (tOp (rIxL K) (tVar i) ti) fun ρ => (mi ρ).bind fun j => .the (atI (g ρ) j) := fun k F H σ ρ c Q w e h => by
  obtain ⟨p, vs, h1, h2, h3, h4⟩ := hm.get e.r
  obtain ⟨_, f0, n0, np⟩ := E.has e.r h4
  refine ⟨.ref p, h1, hi k F H σ ρ c _ w e (wp_imp h fun j c1 ⟨a, ea, q⟩ u F1 H1 x1 w1 r1 => ?_)⟩
  have al := h3.imp fun _ _ g => Ra.st x1.fz g
  obtain ⟨v, hv, r⟩ : ∃ v, atI vs j = some v ∧ Ra.r F1 v a := by
    unfold atI at ea ⊢
    rw [al.len]
    cases z : ixN (g ρ).length j with
    | none => rw [z] at ea; cases ea
    | some n => rw [z] at ea; exact al.get ea
  exact ⟨p, vs, j, v, rfl, r1, .of (x1.hp p _ np h2), hv, q v F1 H1 x1 w1 r⟩
end
end PF

set_option Elab.async false
set_option linter.all false
set_option maxRecDepth 100000
set_option maxHeartbeats 400000
namespace PF
open PySem PySem.Spec PyProof.Rows L2 SlX
namespace M
section
variable {α β γ Γ Γ' Δ : Type} {c : Nat} {Q : α → Nat → Prop} {X : Er → Prop}
theorem ret_wp {a : α} : (M.ret a).wp c Q X = Q a c := id rfl
theorem bind_wp {m : M β} {f : β → M α} : (M.bind m f).wp c Q X = m.wp c (fun a d => (f a).wp d Q X) X := id rfl
theorem need_wp {p : Prop} {m : M α} : (M.need p m).wp c Q X = (p ∧ m.wp c Q X) := id rfl
theorem the_wp {o : Option α} : (M.the o).wp c Q X = ∃ a, o = some a ∧ Q a c := id rfl
theorem ifb_wp {b : Bool} {m n : M α} : (M.ifb b m n).wp c Q X = if b = true then m.wp c Q X else n.wp c Q X := id rfl
theorem anyOf_wp {P : α → Prop} : (M.anyOf P).wp c Q X = ∀ a, P a → Q a c := id rfl
theorem still_wp {m : M α} : (M.still m).wp c Q X = m.wp 0 (fun a _ => Q a c) X := id rfl
theorem roll_wp {t : Int} {Q : Int → Nat → Prop} : (M.roll t).wp c Q X = (c < 2 ^ 60 ∧ 0 < t ∧ Bd 9000 t ∧ ∀ r, 0 ≤ r → r < t → Q r (c + 1)) := id rfl
theorem pick_wp {xs : List α} : (M.pick xs).wp c Q X = (c < 2 ^ 60 ∧ 0 < xs.length ∧ xs.length ≤ 1000 ∧ ∀ x ∈ xs, Q x (c + 1)) := id rfl
theorem thn_wp {m : M (Ct Γ Δ β)} {f : Γ → M (Ct Γ' Δ β)} {Q : Ct Γ' Δ β → Nat → Prop} : (M.thn m f).wp c Q X = m.wp c (fun k d => (thnK f k).wp d Q X) X := id rfl
theorem thn_nx {f : Γ → M (Ct Γ' Δ β)} {ρ : Γ} : thnK f (.nx ρ) = f ρ := id rfl
theorem thn_rt {f : Γ → M (Ct Γ' Δ β)} {b : β} : thnK f (.rt b) = .ret (.rt b) := id rfl
theorem thn_bk {f : Γ → M (Ct Γ' Δ β)} {d : Δ} : thnK f (.bk d) = .ret (.bk d) := id rfl
theorem thn_ct {f : Γ → M (Ct Γ' Δ β)} {d : Δ} : thnK f (.ct d) = .ret (.ct d) := id rfl
theorem fin_wp {m : M (Ct Γ Unit β)} {Q : β → Nat → Prop} : (M.fin m).wp c Q X = m.wp c (fun k d => (finK k).wp d Q X) X := id rfl
theorem fin_rt {b : β} : finK (Γ := Γ) (.rt b) = .ret b := id rfl
theorem fin_nx {ρ : Γ} : finK (β := β) (.nx ρ) = M.none := id rfl
theorem finN_wp {m : M (Ct Γ Unit Unit)} {Q : Unit → Nat → Prop} : (M.finN m).wp c Q X = m.wp c (fun k d => (finNK k).wp d Q X) X := id rfl
theorem finN_rt {b : Unit} : finNK (Γ := Γ) (.rt b) = .ret b := id rfl
theorem finN_nx {ρ : Γ} : finNK (.nx ρ) = .ret () := id rfl
theorem none_wp : (M.none : M α).wp c Q X = False := id rfl
/-- weaken the end -/
theorem wk {m : M α} {Q Q' : α → Nat → Prop} (h : m.wp c Q X) (k : ∀ a d, Q a d → Q' a d) : m.wp c Q' X := m.mono c k (fun _ z => z) h
/-- behind a turn -/
def FK (I : Γ → Nat → Prop) (Q : Ct Γ Δ β → Nat → Prop) : Ct Γ Γ β → Nat → Prop
  | .nx ρ, d => I ρ d
  | .ct ρ, d => I ρ d
  | .bk ρ, d => Q (.nx ρ) d
  | .rt b, d => Q (.rt b) d
theorem FK_nx {I : Γ → Nat → Prop} {Q : Ct Γ Δ β → Nat → Prop} {ρ : Γ} {d : Nat} : FK I Q (.nx ρ) d = I ρ d := id rfl
theorem FK_ct {I : Γ → Nat → Prop} {Q : Ct Γ Δ β → Nat → Prop} {ρ : Γ} {d : Nat} : FK I Q (.ct ρ) d = I ρ d := id rfl
theorem FK_bk {I : Γ → Nat → Prop} {Q : Ct Γ Δ β → Nat → Prop} {ρ : Γ} {d : Nat} : FK I Q (.bk ρ) d = Q (.nx ρ) d := id rfl
theorem FK_rt {I : Γ → Nat → Prop} {Q : Ct Γ Δ β → Nat → Prop} {b : β} {d : Nat} : FK I Q (.rt b) d = Q (.rt b) d := id rfl
theorem forM_inv {xs : List α} {f : α → Γ → M (Ct Γ Γ β)} {Q : Ct Γ Δ β → Nat → Prop} (I : Nat → Γ → Nat → Prop) {ρ : Γ} (h0 : I 0 ρ c)
    (hs : ∀ i a ρ c, xs[i]? = some a → I i ρ c → (f a ρ).wp c (fun k d => FK (I (i + 1)) Q k d) X) (hd : ∀ ρ c, I xs.length ρ c → Q (.nx ρ) c) : (M.forM (Δ := Δ) xs f ρ).wp c Q X := by
  induction xs generalizing ρ c I with
  | nil => rw [forM_nil]; exact hd ρ c h0
  | cons x xs ih =>
    rw [forM_cons]
    show (f x ρ).wp c (fun k d => (forK (fun ρ' => M.forM (Δ := Δ) xs f ρ') k).wp d Q X) X
    refine wk (hs 0 x ρ c rfl h0) fun k d z => ?_
    have go : ∀ ρ', I 1 ρ' d → (M.forM (Δ := Δ) xs f ρ').wp d Q X := fun ρ' z => ih (fun i => I (i + 1)) z (fun i a ρ c h => hs (i + 1) a ρ c (by simpa using h)) hd
    cases k with
    | nx ρ' => exact go ρ' z
    | ct ρ' => exact go ρ' z
    | bk ρ' => exact z
    | rt b => exact z
theorem lcM_inv {xs : List α} {f : α → M (Option β)} {Q : List β → Nat → Prop} (I : Nat → List β → Nat → Prop) (h0 : I 0 [] c)
    (hs : ∀ i a ys c, xs[i]? = some a → I i ys c → (f a).wp c (fun o d => I (i + 1) (ys ++ o.toList) d) X) (hd : ∀ ys c, I xs.length ys c → Q ys c) : (M.lcM xs f).wp c Q X := by
  have gen : ∀ (xs : List α) (I : Nat → List β → Nat → Prop) (ys : List β) (c : Nat) (Q : List β → Nat → Prop), I 0 ys c → (∀ i a ys c, xs[i]? = some a → I i ys c → (f a).wp c (fun o d => I (i + 1) (ys ++ o.toList) d) X) →
      (∀ zs c, I xs.length (ys ++ zs) c → Q zs c) → (M.lcM xs f).wp c Q X := by
    intro xs
    induction xs with
    | nil => intro I ys c Q h0 hs hd; rw [lcM_nil]; exact hd [] c (by simpa using h0)
    | cons x xs ih =>
      intro I ys c Q h0 hs hd
      rw [lcM_cons]
      show (f x).wp c (fun o d => (M.lcM xs f).wp d (fun zs e => Q (o.toList ++ zs) e) X) X
      refine wk (hs 0 x ys c rfl h0) fun o d z => ?_
      refine ih (fun i => I (i + 1)) (ys ++ o.toList) d _ z (fun i a ys c h => hs (i + 1) a ys c (by simpa using h)) fun zs e h => ?_
      exact hd _ e (by rw [← List.append_assoc]; exact h)
  exact gen xs I [] c Q h0 hs fun zs c h => hd zs c (by simpa using h)
/-- a comprehension that reckons each item by itself -/
theorem lcM_map {xs : List α} {f : α → M (Option β)} {g : α → β} {Q : List β → Nat → Prop} (hs : ∀ a ∈ xs, ∀ Q : Option β → Nat → Prop, Q (some (g a)) c → (f a).wp c Q X) (hq : Q (xs.map g) c) : (M.lcM xs f).wp c Q X := by
  refine lcM_inv (fun i ys d => d = c ∧ ys = (xs.take i).map g) ⟨rfl, by simp⟩ (fun i a ys d h ⟨e, ey⟩ => ?_) fun ys d ⟨e, ey⟩ => ?_
  · subst e
    refine hs a (List.mem_of_getElem? h) _ ⟨rfl, ?_⟩
    have hl := (List.getElem?_eq_some_iff.mp h)
    obtain ⟨hl, ha⟩ := hl
    rw [List.take_succ, h, ey]; simp
  · subst e
    rw [List.take_length] at ey
    rw [ey]; exact hq
/-- .. and drops some -/
theorem lcM_filter {xs : List α} {f : α → M (Option β)} {g : α → Option β} {Q : List β → Nat → Prop} (hs : ∀ a ∈ xs, ∀ Q : Option β → Nat → Prop, Q (g a) c → (f a).wp c Q X) (hq : Q (xs.filterMap g) c) : (M.lcM xs f).wp c Q X := by
  refine lcM_inv (fun i ys d => d = c ∧ ys = (xs.take i).filterMap g) ⟨rfl, by simp⟩ (fun i a ys d h ⟨e, ey⟩ => ?_) fun ys d ⟨e, ey⟩ => ?_
  · subst e
    refine hs a (List.mem_of_getElem? h) _ ⟨rfl, ?_⟩
    rw [List.take_succ, h, ey]
    simp only [Option.toList, List.filterMap_append]
    cases e : g a <;> simp [e]
  · subst e
    rw [List.take_length] at ey
    rw [ey]; exact hq
end
end M
theorem rng_len {lo hi : Int} : (rng lo hi).length = (hi - lo).toNat := by rw [rng_eq, List.length_map, List.length_range]
theorem rng_mem {lo hi a : Int} : a ∈ rng lo hi ↔ lo ≤ a ∧ a < hi := by
  rw [rng_eq]
  simp only [List.mem_map, List.mem_range]
  constructor
  · rintro ⟨i, hi, rfl⟩; omega
  · rintro ⟨h1, h2⟩; exact ⟨(a - lo).toNat, by omega, by omega⟩
end PF

set_option Elab.async false
set_option linter.all false
set_option maxRecDepth 100000
set_option maxHeartbeats 4000000
set_option exponentiation.threshold 20000
namespace PF
open PySem PySem.Spec PyProof.Rows L2 SlX
/-! ### the dice -/
def spDice (K : PySem.W.Frag) : Sp := fun vs H Q _ => ∃ (a : Addr) (ns : List Int) (s : Int), vs = [.ref a, .int s] ∧ SqL K H a (ns.map V.int) ∧ ns.length ≤ 100 ∧ 0 ≤ s ∧ s ≤ 100 ∧ ∀ p H', Same H H' → H p = none → Dice p H' 0 → Q (.ref p) H'
def spRoll : Sp := fun vs H Q _ => ∃ (p : Addr) (t : Int) (c : Nat), vs = [.ref p, .int t] ∧ Dice p H c ∧ c < 2 ^ 64 ∧ 0 < t ∧ Bd 9000 t ∧ ∀ r H', 0 ≤ r → r < t → SameB p H H' → Dice p H' (c + 1) → Q (.int r) H'
def spPick : Sp := fun vs H Q _ => ∃ (p l : Addr) (xs : List V) (c : Nat), vs = [.ref p, .ref l] ∧ Dice p H c ∧ c < 2 ^ 64 ∧ H l = some (.lst xs) ∧ l ≠ p ∧ 0 < xs.length ∧ xs.length ≤ 1000 ∧ ∀ v H', v ∈ xs → SameB p H H' → Dice p H' (c + 1) → Q v H'
theorem bd_le {i : Int} {n : Nat} (k : Nat) (h : i.natAbs ≤ k) (l : k < 2 ^ n) : Bd n i := Nat.lt_of_le_of_lt h l
theorem bd_mod {i j : Int} {n : Nat} (h : Bd n j) (j0 : 0 < j) : Bd n (i.fmod j) := by
  have e : i.fmod j = i % j := Int.fmod_eq_emod_of_nonneg i (by omega)
  have h1 := Int.emod_nonneg i (show j ≠ 0 by omega)
  have h2 := Int.emod_lt_of_pos i j0
  rw [e]
  exact h.le (by omega)
theorem fmod_range {i j : Int} (j0 : 0 < j) : 0 ≤ i.fmod j ∧ i.fmod j < j := by
  rw [Int.fmod_eq_emod_of_nonneg i (by omega)]
  exact ⟨Int.emod_nonneg i (by omega), Int.emod_lt_of_pos i j0⟩
theorem fdiv_abs {i j : Int} (i0 : 0 ≤ i) (j0 : 0 < j) : 0 ≤ i.fdiv j ∧ (i.fdiv j).natAbs ≤ i.natAbs := by
  rw [Int.fdiv_eq_ediv_of_nonneg i (by omega)]
  have h1 := Int.ediv_nonneg i0 (show 0 ≤ j by omega)
  have h2 := Int.ediv_le_self j i0
  omega
section
variable {P : Program} {w : World} {K : PySem.W.Frag} {mg : Str → Option Value} {base : Heap} {f : Addr} {fd : FuncData}
theorem sc__law_dice : FnScope ["_law_script", "_law_spot", "_law_cell", "_law_left"] ["_law_script", "_law_spot"] (defScope (topS 42)) := ⟨rfl, rfl, rfl, by decide +kernel, rfl, by decide +kernel, by decide +kernel⟩
theorem ok_dice (F : Fun K "_law_dice" "_law_dice" (topS 42) f fd) (fr : Free mg) : FnOk P w K mg base CX0 2 f fd ["_law_script", "_law_spot"] (spDice K) := by
  refine F.ok sc__law_dice (fun vs H Q E ⟨_, _, _, e, _⟩ => by rw [e]; rfl) (fun cdv A outer s H vs Q E hr h => ⟨_, (pss_cons (ps_set (i := 2) sc__law_dice.nd rfl (by first | exact Or.inl rfl | exact Or.inr rfl) (pe_ifExp (pt_cmpR op_lt (pv 1) (pe_callB call_len (by rfl) fr.b_len (by decide +kernel) (pa_cons (pv 0) pa_nil)) (nomark _)) (pe_callTy call_int1 (by rfl) fr.b_int (by decide +kernel) (pa_cons (pe_ix (ix_list : IxR _ (rIxL K)) (pv 0) (pv 1) (fun _ _ => rfl)) pa_nil)) (pe_op op_add (pe_op op_mulX pe_int (pv 1)) pe_int)))
  (pss_cons (ps_set (i := 3) sc__law_dice.nd rfl (by first | exact Or.inl rfl | exact Or.inr rfl) (pe_op op_modN (pe_callB (call_max2 rfl) (by rfl) fr.b_max (by decide +kernel) (pa_cons pe_int (pa_cons (pe_op op_sub (pe_callB call_abs (by rfl) fr.b_abs (by decide +kernel) (pa_cons (pv 2) pa_nil)) (pe_op op_pow pe_int pe_int)) pa_nil))) (pe_op op_mulX (pe_op op_pow pe_int pe_int) (pe_op op_pow pe_int pe_int))))
  (pss_one (ps_ret (pe_lst (pa_cons (pv 3) (pa_cons (pe_op op_add (pe_op op_add (pe_op op_add (pe_op op_mulX (pe_op op_modN (pe_callB call_abs (by rfl) fr.b_abs (by decide +kernel) (pa_cons (pv 2) pa_nil)) pe_int) pe_int) (pe_op op_mulX pe_int (pv 1))) (pe_op op_mulX pe_int (pe_callTy call_int1 (by rfl) fr.b_int (by decide +kernel) (pa_cons (pe_cmpR op_lt (pv 2) pe_int (nomark _)) pa_nil)))) pe_int) (pa_cons pe_int pa_nil)))))))), ?_⟩)
  obtain ⟨a, ns, s, rfl, hS, hl, h0, h100, q⟩ := h
  have bs : Bd 10 s := bd_sm (by omega) (by decide)
  have rest : ∀ c : Int, tSeq (tAsg (tOp (rI (fun _ j => j ≠ 0) fun i j => .int (i.fmod j)) (tCB (fun xs H Q => ∃ i j, xs = [.int i, .int j] ∧ Q (.int (if j > i then j else i)) H) (tCons (tC (.int 0)) (tCons (tOp (rI0 fun i j => .int (i - j)) (tCB (fun xs H Q => ∃ i, xs = [.int i] ∧ Q (.int (if i < 0 then -i else i)) H) (tCons (tVar 2) tNil)) (tOp (rI CPow fun i j => .int (i ^ j.toNat)) (tC (.int 10)) (tC (.int 16)))) tNil)))
      (tOp (rI CMulX fun i j => .int (i * j)) (tOp (rI CPow fun i j => .int (i ^ j.toNat)) (tC (.int 10)) (tC (.int 60))) (tOp (rI CPow fun i j => .int (i ^ j.toNat)) (tC (.int 10)) (tC (.int 60))))) (gName 3))
      (tRet (tLst (tCons (tVar 3) (tCons (tOp (rI0 fun i j => .int (i + j)) (tOp (rI0 fun i j => .int (i + j)) (tOp (rI0 fun i j => .int (i + j)) (tOp (rI CMulX fun i j => .int (i * j)) (tOp (rI (fun _ j => j ≠ 0) fun i j => .int (i.fmod j)) (tCB (fun xs H Q => ∃ i, xs = [.int i] ∧ Q (.int (if i < 0 then -i else i)) H) (tCons (tVar 2) tNil)) (tC (.int 1152921504606846883))) (tC (.int 47)))
        (tOp (rI CMulX fun i j => .int (i * j)) (tC (.int 809)) (tVar 1))) (tOp (rI CMulX fun i j => .int (i * j)) (tC (.int 31)) (tCB (fun xs H Q => (∃ i, xs = [.int i] ∧ Q (.int i) H) ∨ ∃ k, xs = [.bl k] ∧ Q (.int (if k then 1 else 0)) H) (tCons (tOp (rI0 fun i j => .bl (decide (i < j))) (tVar 2) (tC (.int 0))) tNil)))) (tC (.int 7))) (tCons (tC (.int 0)) tNil)))))
      { nx := fun _ H' => Q .non H', rt := Q } [some (.ref a), some (.int s), some (.int c), none] H := fun c => by
    have m1 : Bd 200 ((10 : Int) ^ 60) := bd_le (10 ^ 60) (by decide) (by decide)
    have nz : (10 : Int) ^ 60 * 10 ^ 60 ≠ 0 := by decide
    refine ⟨_, rfl, _, rfl, _, _, rfl, rfl, ⟨by decide, by decide, by decide⟩, _, _, rfl, rfl, _, _, rfl, _, _, rfl, rfl, ⟨by decide, by decide, by decide⟩, _, _, rfl, rfl, ⟨by decide, by decide, by decide⟩, _, _, rfl, rfl, m1.mulx m1 (by decide), _, _, rfl, rfl, nz, ?_⟩
    have km : Bd 61 (((if c < 0 then -c else c) : Int).fmod 1152921504606846883) := bd_mod (bd_le 1152921504606846883 (by decide) (by decide)) (by decide)
    have b47 : Bd 10 47 := bd_sm (by decide) (by decide)
    have b809 : Bd 10 809 := bd_sm (by decide) (by decide)
    have b31 : Bd 10 31 := bd_sm (by decide) (by decide)
    have bk : ∀ k : Bool, Bd 10 (if k then 1 else 0 : Int) := fun k => by cases k <;> exact bd_sm (by decide) (by decide)
    refine ⟨_, rfl, _, rfl, _, rfl, _, _, rfl, rfl, (by decide : (1152921504606846883 : Int) ≠ 0), _, _, rfl, rfl, km.mulx b47 (by decide), _, rfl, _, _, rfl, rfl, b809.mulx bs (by decide), _, _, rfl, rfl, _, rfl, _, _, rfl, rfl, .inr ⟨_, rfl, _, _, rfl, rfl, b31.mulx (bk _) (by decide), _, _, rfl, rfl, _, _, rfl, rfl, ?_⟩⟩
    refine ⟨by show 3 ≤ sizeLine; decide, fun p hp => q p _ (same_upd hp) hp ⟨_, _, _, upd_same, ?_, ?_, ?_, by decide, by decide⟩⟩
    · exact (fmod_range (by decide)).1
    · exact (bd_mod (m1.mul m1) (by decide)).mono (by decide)
    · refine Bd.add (n := 199) ?_ (bd_sm (by decide) (by decide)) rfl
      refine Bd.add (n := 198) ?_ ((b31.mul (bk _)).mono (by decide)) rfl
      exact Bd.add (n := 197) ((km.mul b47).mono (by decide)) ((b809.mul bs).mono (by decide)) rfl
  refine ⟨_, rfl, _, rfl, _, (ns.map V.int).length, rfl, Or.inl ⟨_, hS, rfl⟩, _, _, rfl, rfl, _, rfl, ite_dec (fun c => ?_) fun c => ?_⟩
  · rw [List.length_map] at c
    obtain ⟨j, rfl⟩ : ∃ j : Nat, s = (j : Int) := ⟨s.toNat, by omega⟩
    have hj : j < ns.length := by omega
    have g : (ns.map V.int)[j]? = some (.int ns[j]) := by rw [List.getElem?_map, List.getElem?_eq_getElem hj]; rfl
    exact ⟨_, rfl, _, rfl, a, _, _, _, rfl, rfl, hS, atI_nat g, .inl ⟨_, rfl, rest _⟩⟩
  · have b67 : Bd 10 67 := bd_sm (by decide) (by decide)
    exact ⟨_, rfl, _, _, rfl, rfl, b67.mulx bs (by decide), _, _, rfl, rfl, rest _⟩
theorem sc__law_roll : FnScope ["_law_dice_here", "_law_total", "_law_found", "_law_one", "_law_two"] ["_law_dice_here", "_law_total"] (defScope (topS 43)) := ⟨rfl, rfl, rfl, by decide +kernel, rfl, by decide +kernel, by decide +kernel⟩
theorem ok_roll (F : Fun K "_law_roll" "_law_roll" (topS 43) f fd) (fr : Free mg) : FnOk P w K mg base CX0 2 f fd ["_law_dice_here", "_law_total"] spRoll := by
  refine F.ok sc__law_roll (fun vs H Q E ⟨_, _, _, e, _⟩ => by rw [e]; rfl) (fun cdv A outer s H vs Q E hr h => ⟨_, (pss_cons (ps_if (pt_cmpR op_gt (pe_ix (ix_list : IxR _ (rIxL K)) (pv 0) pe_int (fun _ _ => rfl)) pe_int (nomark _)) (pss_cons (ps_set (i := 2) sc__law_roll.nd rfl (by first | exact Or.inl rfl | exact Or.inr rfl) (pe_op op_modN (pe_callTy call_int1 (by rfl) fr.b_int (by decide +kernel) (pa_cons (pe_ix (ix_list : IxR _ (rIxL K)) (pv 0) pe_int (fun _ _ => rfl)) pa_nil)) (pv 1)))
  (pss_cons (ps_asg (pe_op op_fdivZ (pe_ix (ix_list : IxR _ (rIxL K)) (pv 0) pe_int (fun _ _ => rfl)) (pv 1)) (pg_sub (pv 0) pe_int set_list))
  (pss_one (ps_ret (pv 2))))) pss_nil)
  (pss_cons (ps_asg (pe_op op_add (pe_ix (ix_list : IxR _ (rIxL K)) (pv 0) pe_int (fun _ _ => rfl)) pe_int) (pg_sub (pv 0) pe_int set_list))
  (pss_cons (ps_set (i := 3) sc__law_roll.nd rfl (by first | exact Or.inl rfl | exact Or.inr rfl) (pe_op op_modN (pe_callTy call_int1 (by rfl) fr.b_int (by decide +kernel) (pa_cons (pe_op op_add (pe_ix (ix_list : IxR _ (rIxL K)) (pv 0) pe_int (fun _ _ => rfl)) (pe_op op_mulX pe_int (pe_ix (ix_list : IxR _ (rIxL K)) (pv 0) pe_int (fun _ _ => rfl)))) pa_nil)) pe_int))
  (pss_cons (ps_set (i := 4) sc__law_roll.nd rfl (by first | exact Or.inl rfl | exact Or.inr rfl) (pe_op op_add (pe_op op_mulX (pe_op op_modN (pe_callTy call_int1 (by rfl) fr.b_int (by decide +kernel) (pa_cons (pe_op op_add (pe_op op_mulX (pv 3) (pv 3)) (pe_op op_mulX pe_int (pe_ix (ix_list : IxR _ (rIxL K)) (pv 0) pe_int (fun _ _ => rfl)))) pa_nil)) pe_int) pe_int) (pv 3)))
  (pss_one (ps_ret (pe_op op_modN (pe_callTy call_int1 (by rfl) fr.b_int (by decide +kernel) (pa_cons (pe_op op_fdivZ (pv 4) pe_int) pa_nil)) (pv 1)))))))), ?_⟩)
  obtain ⟨p, t, c, rfl, ⟨d0, d1, d2, hp, p0, b0, b1, p2, l2⟩, hc, t0, bt, q⟩ := h
  have g0 : ∀ x y z : V, atI [x, y, z] 0 = some x := fun x y z => atI_nat (j := 0) rfl
  have g1 : ∀ x y z : V, atI [x, y, z] 1 = some y := fun x y z => atI_nat (j := 1) rfl
  have g2 : ∀ x y z : V, atI [x, y, z] 2 = some z := fun x y z => atI_nat (j := 2) rfl
  refine ⟨_, rfl, p, _, _, _, rfl, rfl, .of hp, g0 _ _ _, _, _, rfl, rfl, _, rfl, ite_dec (fun c0 => ?_) fun c0 => ?_⟩
  · obtain ⟨r1, r2⟩ := fmod_range (i := d0) t0
    obtain ⟨r3, r4⟩ := fdiv_abs p0 t0
    refine ⟨_, rfl, p, _, _, _, rfl, rfl, .of hp, g0 _ _ _, .inl ⟨_, rfl, _, rfl, _, _, rfl, rfl, (by omega : t ≠ 0), _, rfl, p, _, _, _, rfl, rfl, .of hp, g0 _ _ _, _, rfl, _, _, rfl, rfl, bt.dvz (by omega) (Nat.le_refl _), _, rfl, p, _, _, 0, rfl, rfl, hp, rfl, _, rfl, ?_⟩⟩
    refine q _ _ r1 r2 (SameB.refl p H).upd ⟨_, _, _, upd_same, r3, b0.le r4, b1, p2, by omega⟩
  refine ⟨_, rfl, p, _, _, _, rfl, rfl, .of hp, g2 _ _ _, _, _, rfl, rfl, _, rfl, p, _, _, 2, rfl, rfl, hp, rfl, ?_⟩
  have hq : upd H p (.lst ([V.int d0, .int d1, .int d2].set 2 (.int (d2 + 1)))) p = some (.lst [.int d0, .int d1, .int (d2 + 1)]) := upd_same
  generalize hG : upd H p (.lst ([V.int d0, .int d1, .int d2].set 2 (.int (d2 + 1)))) = G at hq ⊢
  have sG : SameB p H G := by rw [← hG]; exact (SameB.refl p H).upd
  have bd2 : Bd 100 (d2 + 1) := bd_le (2 ^ 64) (by omega) (by decide)
  have bk : Bd 26 32452843 := bd_le 32452843 (by decide) (by decide)
  have b97 : Bd 10 97 := bd_sm (by decide) (by decide)
  refine ⟨_, rfl, p, _, _, _, rfl, rfl, .of hq, g1 _ _ _, _, rfl, p, _, _, _, rfl, rfl, .of hq, g2 _ _ _, _, _, rfl, rfl, bk.mulx bd2 (by decide), _, _, rfl, rfl, .inl ⟨_, rfl, _, _, rfl, rfl, (by decide : (2305843009213693951 : Int) ≠ 0), ?_⟩⟩
  have bo := bd_mod (i := d1 + 32452843 * (d2 + 1)) (j := 2305843009213693951) (n := 62) (bd_le 2305843009213693951 (by decide) (by decide)) (by decide)
  have bt2 := fun i : Int => bd_mod (i := i) (j := 2305843009213693921) (n := 62) (bd_le 2305843009213693921 (by decide) (by decide)) (by decide)
  have b7 : Bd 23 7368787 := bd_le 7368787 (by decide) (by decide)
  refine ⟨_, rfl, _, rfl, _, _, rfl, rfl, bo.mulx bo (by decide), _, rfl, p, _, _, _, rfl, rfl, .of hq, g2 _ _ _, _, _, rfl, rfl, b97.mulx bd2 (by decide), _, _, rfl, rfl, .inl ⟨_, rfl, _, _, rfl, rfl, (by decide : (2305843009213693921 : Int) ≠ 0), _, _, rfl, rfl, (bt2 _).mulx b7 (by decide), _, rfl, _, _, rfl, rfl, ?_⟩⟩
  have b6 : Bd 17 65536 := bd_le 65536 (by decide) (by decide)
  refine ⟨_, rfl, _, _, rfl, rfl, b6.dvz (by decide) (by decide), .inl ⟨_, rfl, _, rfl, _, _, rfl, rfl, (by omega : t ≠ 0), ?_⟩⟩
  exact q _ _ (fmod_range t0).1 (fmod_range t0).2 sG ⟨_, _, _, hq, p0, b0, b1, by omega, by omega⟩
theorem sc__law_pick : FnScope ["_law_dice_here", "_law_items"] ["_law_dice_here", "_law_items"] (defScope (topS 44)) := ⟨rfl, rfl, rfl, by decide +kernel, rfl, by decide +kernel, by decide +kernel⟩
theorem ok_pick (F : Fun K "_law_pick" "_law_pick" (topS 44) f fd) (fr : Free mg) (G__law_roll : GD P w K mg base "_law_roll" 2 spRoll) : FnOk P w K mg base CX0 3 f fd ["_law_dice_here", "_law_items"] spPick := by
  refine F.ok sc__law_pick (fun vs H Q E ⟨_, _, _, _, e, _⟩ => by rw [e]; rfl) (fun cdv A outer s H vs Q E hr h => ⟨_, (pss_one (ps_ret (pe_ix (ix_list : IxR _ (rIxL K)) (pv 1) (pe_c1 G__law_roll (hr.mono (by decide)) (pa_cons (pv 0) (pa_cons (pe_callB call_len (by rfl) fr.b_len (by decide +kernel) (pa_cons (pv 1) pa_nil)) pa_nil))) (fun _ _ => rfl)))), ?_⟩)
  obtain ⟨p, l, xs, c, rfl, hd, hc, hl, ne, h0, h1, q⟩ := h
  refine ⟨_, rfl, _, rfl, _, rfl, _, xs.length, rfl, .inl ⟨_, .of hl, rfl⟩, p, _, c, rfl, hd, hc, by omega, bd_le 1000 (by omega) (by decide), fun r H' r0 r1 s1 hd' => ?_⟩
  obtain ⟨j, rfl⟩ : ∃ j : Nat, r = (j : Int) := ⟨r.toNat, by omega⟩
  have hj : j < xs.length := by omega
  exact ⟨l, xs, _, _, rfl, rfl, .of (s1 _ _ ne hl), atI_nat (List.getElem?_eq_getElem hj), q _ _ (List.getElem_mem hj) s1 hd'⟩
end
end PF

set_option Elab.async false
set_option linter.all false
set_option maxRecDepth 100000
set_option maxHeartbeats 1000000
namespace PF
open PySem PySem.Spec PyProof.Rows L2 SlX
/-! ### dicts, plain -/
section
variable {κ α β : Type} [DecidableEq κ]
def dput (l : List (κ × α)) (k : κ) (a : α) : List (κ × α) := if (l.any fun p => decide (p.1 = k)) = true then l.map (fun p => if p.1 = k then (p.1, a) else p) else l ++ [(k, a)]
def dget (l : List (κ × α)) (k : κ) : Option α := (l.find? fun p => decide (p.1 = k)).map (·.2)
def dmerge (l ps : List (κ × α)) : List (κ × α) := ps.foldl (fun l p => dput l p.1 p.2) l
theorem dmerge_cons (l ps : List (κ × α)) (p : κ × α) : dmerge l (p :: ps) = dmerge (dput l p.1 p.2) ps := rfl
theorem dput_new {l : List (κ × α)} {k : κ} {a : α} (h : ∀ p ∈ l, p.1 ≠ k) : dput l k a = l ++ [(k, a)] := by
  unfold dput
  rw [if_neg]
  simp only [Bool.not_eq_true, List.any_eq_false, decide_eq_true_eq]
  exact h
/-- keys that differ: the pairs as they stand -/
theorem dmerge_nodup : ∀ (l ps : List (κ × α)), ((l ++ ps).map (·.1)).Nodup → dmerge l ps = l ++ ps
  | l, [], _ => by simp [dmerge]
  | l, p :: ps, h => by
    rw [dmerge_cons, dput_new, dmerge_nodup, List.append_assoc]
    · rfl
    · rw [List.append_assoc]; exact h
    · intro q hq e
      rw [List.map_append, List.map_cons] at h
      have := List.nodup_append.mp h
      exact this.2.2 q.1 (List.mem_map_of_mem hq) p.1 (List.mem_cons_self ..) e
end
structure KyR {κ : Type} (R : Rp κ) (kf : κ → Key) : Prop where
  v : ∀ {F : Hp} {v : V} {k : κ}, R.r F v k → v = kV (kf k)
  inj : ∀ {a b : κ}, kf a = kf b → a = b
theorem ky_str : KyR rStr Sum.inr := ⟨fun h => h, fun h => Sum.inr.inj h⟩
theorem ky_int : KyR rInt Sum.inl := ⟨fun h => h, fun h => Sum.inl.inj h⟩
inductive AllD {κ α : Type} (kf : κ → Key) (f : V → α → Prop) : List (Key × V) → List (κ × α) → Prop where
  | nil : AllD kf f [] []
  | cons {v : V} {k : κ} {a : α} {kvs : List (Key × V)} {l : List (κ × α)} (h : f v a) (t : AllD kf f kvs l) : AllD kf f ((kf k, v) :: kvs) ((k, a) :: l)
section
variable {κ α : Type} {kf : κ → Key} {f g : V → α → Prop} {kvs : List (Key × V)} {l : List (κ × α)}
theorem AllD.imp (h : AllD kf f kvs l) (k : ∀ v n, f v n → g v n) : AllD kf g kvs l := by
  induction h with
  | nil => exact .nil
  | cons h _ ih => exact .cons (k _ _ h) ih
theorem AllD.len (h : AllD kf f kvs l) : kvs.length = l.length := by
  induction h with
  | nil => rfl
  | cons h _ ih => rw [List.length_cons, List.length_cons, ih]
theorem AllD.snoc (h : AllD kf f kvs l) {v : V} {k : κ} {a : α} (r : f v a) : AllD kf f (kvs ++ [(kf k, v)]) (l ++ [(k, a)]) := by
  induction h with
  | nil => exact .cons r .nil
  | cons h _ ih => exact .cons h ih
variable [DecidableEq κ]
theorem AllD.any (inj : ∀ {a b : κ}, kf a = kf b → a = b) (h : AllD kf f kvs l) (k : κ) : (kvs.any fun p => decide (p.1 = kf k)) = (l.any fun p => decide (p.1 = k)) := by
  induction h with
  | nil => rfl
  | @cons v k2 a _ _ h _ ih =>
    rw [List.any_cons, List.any_cons, ih]
    by_cases c : k2 = k
    · subst c; simp
    · rw [decide_eq_false fun z => c (inj z), decide_eq_false c]
theorem AllD.repl (inj : ∀ {a b : κ}, kf a = kf b → a = b) (h : AllD kf f kvs l) (k : κ) {v : V} {a : α} (r : f v a) : AllD kf f (kvs.map fun p => if p.1 = kf k then (p.1, v) else p) (l.map fun p => if p.1 = k then (p.1, a) else p) := by
  induction h with
  | nil => exact .nil
  | @cons u k2 b _ _ h _ ih =>
    rw [List.map_cons, List.map_cons]
    by_cases c : k2 = k
    · subst c
      rw [if_pos rfl, if_pos rfl]
      exact .cons r ih
    · rw [if_neg (fun z => c (inj z)), if_neg c]
      exact .cons h ih
theorem AllD.put (inj : ∀ {a b : κ}, kf a = kf b → a = b) (h : AllD kf f kvs l) (k : κ) {v : V} {a : α} (r : f v a) : AllD kf f (putK kvs (kf k) v) (dput l k a) := by
  unfold putK dput
  rw [h.any inj k]
  by_cases c : (l.any fun p => decide (p.1 = k)) = true
  · rw [if_pos c, if_pos c]
    exact h.repl inj k r
  · rw [if_neg c, if_neg c]
    exact h.snoc r
theorem AllD.get (inj : ∀ {a b : κ}, kf a = kf b → a = b) (h : AllD kf f kvs l) (k : κ) : (∃ v a, valV kvs (kf k) = some v ∧ dget l k = some a ∧ f v a) ∨ (valV kvs (kf k) = none ∧ dget l k = none) := by
  induction h with
  | nil => exact .inr ⟨rfl, rfl⟩
  | @cons u k2 b kvs' l' h _ ih =>
    by_cases c : k2 = k
    · subst c
      exact .inl ⟨u, b, valV_pos rfl, by simp [dget], h⟩
    · have e1 : valV ((kf k2, u) :: kvs') (kf k) = valV kvs' (kf k) := valV_neg fun z => c (inj z)
      have e2 : dget ((k2, b) :: l') k = dget l' k := by simp [dget, List.find?_cons, c]
      rw [e1, e2]
      exact ih
end
/-- a dict that stands still -/
def rDct {κ α : Type} (kf : κ → Key) (R : Rp α) : Rp (List (κ × α)) :=
  ⟨fun F v l => ∃ p kvs o, v = .ref p ∧ F p = some (.frz o (.dK kvs)) ∧ AllD kf (R.r F) kvs l, fun s ⟨p, kvs, o, e, h, t⟩ => ⟨p, kvs, o, e, s _ _ h, t.imp fun _ _ g => R.st s g⟩⟩
/-- the value of an expression, locked from now on -/
def tLk (t : TE) : TE := fun σ H Q => t σ H fun v H1 => ∃ d u, v = .ref d ∧ H1 d = some u ∧ Mut (some u) ∧ ∀ od, Q v (upd H1 d (.frz od u))
theorem pe_lk {X : Cx} {e : Expr} {t : TE} (h : PE X e t) : PE X e (tLk t) := ⟨fun pins s σ H Q I q => thn (h.run pins s σ H _ I q) fun v s1 ⟨x, H1, I1, r, d, u, ex, hd, mu, q⟩ => by
  obtain ⟨od, I2⟩ := I1.lock hd mu
  exact ⟨x, _, I2, r, q od⟩⟩
theorem dget_f {H : Hp} {a : Addr} {kvs : List (Key × V)} {k : Key} {o : Obj} (e : H a = some (.frz o (.dK kvs))) : DGet H a (kV k) (valV kvs k) := .inl ⟨kvs, k, .inr ⟨o, e⟩, rfl, rfl⟩
/-- a thing of one's own is let go, locked -/
theorem Wo.letgo {k : Cn} {F H F' H' : Hp} {c : Nat} {D : Addr} {o : HO} (w : Wo k F' H' c) (x : ExtX k.p F H F' H') (n : H D = none) (n0 : k.H0 D = none) (f : F' D = none) : ExtX k.p F H (upd F' D o) (upd H' D o) ∧ Wo k (upd F' D o) (upd H' D o) c ∧ Same F' (upd F' D o) := by
  have w1 := w.mod (o := o) n0 f
  have x1 := x.mod (o := o) n f
  obtain ⟨s, w2⟩ := w1.fz n0 f upd_same
  exact ⟨⟨x1.fz.trans s, w2.sub, x1.hp, fun b hb => by
    rw [upd_ne (fun z => hb (by rw [z]; exact n))]; exact x1.old b hb, x1.on⟩, w2, s⟩
section
variable {Γ Γ' Γ'' Δ α β γ δ κ : Type} {μ : Md} {E : EV Γ} {E' : EV Γ'} {El : EV Δ} {Ra : Rp α} {Rb : Rp β} {R : Rp γ} {Rk : Rp κ} {kf : κ → Key} {K : PySem.W.Frag} [DecidableEq κ]
/-- {k: v for x in xs if t} -/
theorem e_dc {wi : TI} {tt : TT} {tk tv : TE} {js : List Nat} {ml : Γ → M (List α)} {put : Γ → α → Γ'} {mt : Γ' → M Bool} {mk : Γ' → M κ} {mv : Γ' → M β} {gg : TG} (ky : KyR Rk kf) (hi : SI μ E Ra wi ml) (hg : SGw js E Ra gg E' put) (ht : ST μ E' tt mt) (hk : SE μ E' Rk tk mk) (hv : SE μ E' Rb tv mv) :
    SE μ E (rDct kf Rb) (tLk (tDc wi gg tt tk tv js)) fun ρ => (ml ρ).bind fun xs => .need (xs.length ≤ 1000000) ((M.lcM xs fun a => (mt (put ρ a)).bind fun b => .ifb b ((mk (put ρ a)).bind fun x => (mv (put ρ a)).bind fun y => .ret (some (x, y))) (.ret none)).bind fun ps => .ret (dmerge [] ps)) := fun k F H σ ρ c Q w e h =>
  hi k F H σ ρ c _ w e (wp_imp h fun xs c1 ⟨hxs, q⟩ J F1 H1 x1 w1 wk D nD => by
    have nDH : H D = none := by
      cases z : H D with
      | none => rfl
      | some o => exact absurd nD (x1.on D (by rw [z]; simp))
    have nD0 := w.h0 nDH
    have nDF : F1 D = none := w1.sub.free nD
    have now : D ∉ E.owns σ := fun z => (E.has e.r z).1 nDH
    have np : k.p ≠ some D := w.np nD0
    have hl0 : ∀ (l : List (κ × β)) (k : κ) (a : β), (dput l k a).length ≤ l.length + 1 := fun l k a => by
      unfold dput
      split
      · rw [List.length_map]; omega
      · rw [List.length_append]; exact Nat.le_refl _
    refine ⟨fun i n H' => n = xs.length - i ∧ i ≤ xs.length ∧ ∃ F' c' acc l, Same F1 F' ∧ ExtX k.p F H F' H' ∧ Wo k F' H' c' ∧ EI k E F' H' σ ρ ∧ F' D = none ∧ H' D = some (.dK acc) ∧ l.length ≤ i ∧ AllD kf (Rb.r F') acc l ∧
        (M.lcM (xs.drop i) fun a => (mt (put ρ a)).bind fun b => .ifb b ((mk (put ρ a)).bind fun x => (mv (put ρ a)).bind fun y => .ret (some (x, y))) (.ret none)).wp c' (fun zs c => VP k F H (rDct kf Rb) Q (dmerge l zs) c) (XP μ k),
      ⟨xs.length, by simp, Nat.zero_le _, F1, c1, [], [], Same.refl _, x1.mod nDH nDF, w1.mod nD0 nDF, (e.step x1).upd now (.inl nD), nDF, upd_same, Nat.le_refl _, .nil, q⟩, ?_⟩
    rintro i n H' ⟨rfl, hi, F', c', acc, l, s1, x', w', e', f', hD', hl, al, q'⟩
    obtain ⟨go, stop⟩ := wk i F' H' s1 w'.sub
    by_cases hlt : i < xs.length
    · obtain ⟨g1, g2⟩ := go _ (List.getElem?_eq_getElem hlt)
      have ed : xs.drop i = xs[i] :: xs.drop (i + 1) := List.drop_eq_getElem_cons hlt
      rw [ed, M.lcM_cons] at q'
      refine .inr ⟨g1, fun H2 => i + 1 ≤ xs.length ∧ ∃ F' c' acc l, Same F1 F' ∧ ExtX k.p F H F' H2 ∧ Wo k F' H2 c' ∧ EI k E F' H2 σ ρ ∧ F' D = none ∧ H2 D = some (.dK acc) ∧ l.length ≤ i + 1 ∧ AllD kf (Rb.r F') acc l ∧
        (M.lcM (xs.drop (i + 1)) fun a => (mt (put ρ a)).bind fun b => .ifb b ((mk (put ρ a)).bind fun x => (mv (put ρ a)).bind fun y => .ret (some (x, y))) (.ret none)).wp c' (fun zs c => VP k F H (rDct kf Rb) Q (dmerge l zs) c) (XP μ k),
        fun H2 ⟨z0, z⟩ => ⟨xs.length - (i + 1), by omega, rfl, z0, z⟩, fun x H2 y => ?_⟩
      obtain ⟨F2, x2, r2⟩ := g2 x H2 y
      obtain ⟨x2', w2⟩ := w'.call x2
      refine hg k F2 H2 σ ρ c' x _ _ w2 (e'.step x2') r2 fun σ3 hw e3 => ⟨hw, ?_⟩
      refine ht k F2 H2 σ3 _ c' _ w2 e3 (wp_imp q' fun b c3 z F3 H3 x3 w3 => ?_)
      have x13 := x2'.trans x3
      have f3 : F3 D = none := (x13.old D (some_ne hD')).trans f'
      have h3 : H3 D = some (.dK acc) := x13.hp D _ np hD'
      cases b with
      | false => exact ⟨hlt, F3, c3, acc, l, s1.trans x13.fz, x'.trans x13, w3, e'.step x13, f3, h3, Nat.le_succ_of_le hl, al.imp fun _ _ g => Rb.st x13.fz g, z⟩
      | true =>
        refine hk k F3 H3 σ3 _ c3 _ w3 (e3.step x3) (wp_imp z fun ka c4 z v F4 H4 x4 w4 r4 => ?_)
        refine hv k F4 H4 σ3 _ c4 _ w4 ((e3.step x3).step x4) (wp_imp z fun ya c5 z u F5 H5 x5 w5 r5 => ?_)
        have x15 := (x13.trans x4).trans x5
        have f5 : F5 D = none := (x15.old D (some_ne hD')).trans f'
        have h5 : H5 D = some (.dK acc) := x15.hp D _ np hD'
        have al5 : AllD kf (Rb.r F5) acc l := al.imp fun _ _ g => Rb.st x15.fz g
        refine ⟨acc, kf ka, ky.v r4, h5, by rw [al.len, sizeLine_eq]; omega, hlt, F5, c5, putK acc (kf ka) u, dput l ka ya, s1.trans x15.fz, (x'.trans x15).mod nDH f5, w5.mod nD0 f5, (e'.step x15).upd now (.dK h5), f5, upd_same, ?_, al5.put ky.inj ka r5, ?_⟩
        · exact Nat.le_trans (hl0 l ka ya) (Nat.succ_le_succ hl)
        · exact wp_imp z fun zs c z => z
    · have e0 : i = xs.length := by omega
      subst e0
      rw [List.drop_length, M.lcM_nil] at q'
      refine .inl ⟨stop (Nat.le_refl _), ?_⟩
      have z : VP k F H (rDct kf Rb) Q (dmerge l []) c' := q'
      have z2 : VP k F H (rDct kf Rb) Q l c' := z
      refine ⟨D, .dK acc, rfl, hD', trivial, fun od => ?_⟩
      obtain ⟨x2, w2, s⟩ := w'.letgo (o := .frz od (.dK acc)) x' nDH nD0 f'
      exact z2 (.ref D) _ _ x2 w2 ⟨D, acc, od, rfl, upd_same, al.imp fun _ _ g => Rb.st s g⟩)
/-- d[k] -/
theorem e_dget {td ty : TE} {ma : Γ → M (List (κ × β))} {mk : Γ → M κ} (ky : KyR Rk kf) (hd : SE μ E (rDct kf Rb) td ma) (hk : SE μ E Rk ty mk) : SE μ E Rb (tDGet td ty) fun ρ => (ma ρ).bind fun l => (mk ρ).bind fun k => .the (dget l k) := fun k F H σ ρ c Q w e h =>
  hd k F H σ ρ c _ w e (wp_imp h fun l c1 q v F1 H1 x1 w1 ⟨p, kvs, o, ev, hp, al⟩ => hk k F1 H1 σ ρ c1 _ w1 (e.step x1) (wp_imp q fun ka c2 ⟨a, ea, q⟩ u F2 H2 x2 w2 r2 => by
    have al2 := al.imp fun _ _ g => Rb.st x2.fz g
    rcases al2.get ky.inj ka with ⟨v, b, e1, e2, r⟩ | ⟨e1, e2⟩
    · rw [ea] at e2
      cases e2
      refine ⟨p, v, ev, ?_, q v F2 H2 (x1.trans x2) w2 r⟩
      rw [ky.v r2, ← e1]
      exact dget_f (w2.sub _ _ (x2.fz _ _ hp))
    · rw [ea] at e2; cases e2))
/-- k in d -/
theorem e_din {td ty : TE} {ma : Γ → M (List (κ × β))} {mk : Γ → M κ} (ky : KyR Rk kf) (hk : SE μ E Rk ty mk) (hd : SE μ E (rDct kf Rb) td ma) : SE μ E rBl (tDIn ty td) fun ρ => (mk ρ).bind fun k => (ma ρ).bind fun l => .ret (dget l k).isSome := fun k F H σ ρ c Q w e h =>
  hk k F H σ ρ c _ w e (wp_imp h fun ka c1 q v F1 H1 x1 w1 r1 => hd k F1 H1 σ ρ c1 _ w1 (e.step x1) (wp_imp q fun l c2 q u F2 H2 x2 w2 ⟨p, kvs, o, ev, hp, al⟩ => by
    refine ⟨p, valV kvs (kf ka), ev, ?_, ?_⟩
    · rw [ky.v r1]; exact dget_f (w2.sub _ _ hp)
    · refine q _ F2 H2 (x1.trans x2) w2 ?_
      rcases al.get ky.inj ka with ⟨v, b, e1, e2, r⟩ | ⟨e1, e2⟩ <;> rw [e1, e2] <;> rfl))
theorem e_dnotin {td ty : TE} {ma : Γ → M (List (κ × β))} {mk : Γ → M κ} (ky : KyR Rk kf) (hk : SE μ E Rk ty mk) (hd : SE μ E (rDct kf Rb) td ma) : SE μ E rBl (tDNotIn ty td) fun ρ => (mk ρ).bind fun k => (ma ρ).bind fun l => .ret (!(dget l k).isSome) := fun k F H σ ρ c Q w e h =>
  hk k F H σ ρ c _ w e (wp_imp h fun ka c1 q v F1 H1 x1 w1 r1 => hd k F1 H1 σ ρ c1 _ w1 (e.step x1) (wp_imp q fun l c2 q u F2 H2 x2 w2 ⟨p, kvs, o, ev, hp, al⟩ => by
    refine ⟨p, valV kvs (kf ka), ev, ?_, ?_⟩
    · rw [ky.v r1]; exact dget_f (w2.sub _ _ hp)
    · refine q _ F2 H2 (x1.trans x2) w2 ?_
      rcases al.get ky.inj ka with ⟨v, b, e1, e2, r⟩ | ⟨e1, e2⟩ <;> rw [e1, e2] <;> rfl))
/-! ### more that is walked -/
def signs (z : Str) : List Str := z.cps.toList.map fun c => (⟨#[c]⟩ : Str)
theorem i_str {te : TE} {m : Γ → M Str} (h : SE μ E rStr te m) : SI μ E rStr (iStr te) fun ρ => (m ρ).bind fun z => .ret (signs z) := fun k F H σ ρ c W w e q =>
  h k F H σ ρ c _ w e (wp_imp q fun z c1 q v F1 H1 x1 w1 r => ⟨z, r, q _ F1 H1 x1 w1 fun i F' H' s1 s2 => by
    refine ⟨fun a ha => ?_, fun hi => ?_⟩
    · unfold signs at ha
      rw [List.getElem?_map] at ha
      cases hc : z.cps.toList[i]? with
      | none => rw [hc] at ha; cases ha
      | some c =>
        rw [hc] at ha
        cases ha
        have hc' : z.cps[i]? = some c := by simpa using hc
        exact ⟨(Array.getElem?_eq_some_iff.mp hc').1, fun x H'' ⟨e1, c2, e2, e3⟩ => by
          rw [hc'] at e2
          cases e2
          subst e1
          exact ⟨F', ExtX.refl s2, e3⟩⟩
    · show z.cps.size ≤ i
      unfold signs at hi
      simpa using hi⟩)
def zip2 (xs : List α) (ys : List β) : List (α × β × Unit) := (xs.zip ys).map fun p => (p.1, p.2, ())
theorem i_zipT {ta tb : TE} {ma : Γ → M (List α)} {mb : Γ → M (List β)} (ha : SE μ E (rTup K Ra) ta ma) (hb : SE μ E (rTup K Rb) tb mb) :
    SI μ E (rTx K (aCons Ra (aCons Rb aNil))) (RZ.iZipA K (tCons ta (tCons tb tNil))) fun ρ => (ma ρ).bind fun xs => (mb ρ).bind fun ys => .ret (zip2 xs ys) := fun k F H σ ρ c W w e h =>
  ha k F H σ ρ c _ w e (wp_imp h fun xs c1 q v F1 H1 x1 w1 r1 => hb k F1 H1 σ ρ c1 _ w1 (e.step x1) (wp_imp q fun ys c2 q u F2 H2 x2 w2 r2 => by
    obtain ⟨p, vs, ev, hp, al⟩ := (rTup K Ra).st x2.fz r1
    obtain ⟨p2, vs2, ev2, hp2, al2⟩ := r2
    refine ⟨p, p2, vs, vs2, by rw [ev, ev2], .inr ⟨same_seqT w2.sub hp, same_seqT w2.sub hp2, q _ F2 H2 (x1.trans x2) w2 fun i F' H' s1 s2 => ?_⟩⟩
    have sq1 : SqT K H' p vs := same_seqT s2 (same_seqT s1 hp)
    have sq2 : SqT K H' p2 vs2 := same_seqT s2 (same_seqT s1 hp2)
    refine ⟨fun a hz => ?_, fun hi => ?_⟩
    · unfold zip2 at hz
      rw [List.getElem?_map] at hz
      cases hq : (xs.zip ys)[i]? with
      | none => rw [hq] at hz; cases hz
      | some ab =>
        rw [hq] at hz
        cases hz
        obtain ⟨h1, h2⟩ := List.getElem?_zip_eq_some.mp hq
        obtain ⟨x, hx, rx⟩ := al.get h1
        obtain ⟨y, hy, ry⟩ := al2.get h2
        refine ⟨⟨vs, vs2, x, y, sq1, sq2, hx, hy⟩, fun z H'' ⟨T, x', y', ez, nT, eH, g1, g2⟩ => ?_⟩
        have ex : x' = x := Option.some.inj ((g1 _ sq1).symm.trans hx)
        have ey : y' = y := Option.some.inj ((g2 _ sq2).symm.trans hy)
        subst ex ey ez eH
        have xn := ExtX.new (p := none) s2 nT (.tup [x', y'])
        exact ⟨_, xn, T, _, rfl, .of upd_same, x', _, rfl, Ra.st (s1.trans xn.fz) rx, y', _, rfl, Rb.st (s1.trans xn.fz) ry, rfl⟩
    · refine ⟨vs, vs2, sq1, sq2, ?_⟩
      unfold zip2 at hi
      rw [List.length_map, List.length_zip] at hi
      rw [al.len, al2.len]
      omega))
end
end PF

set_option Elab.async false
set_option linter.all false
set_option maxRecDepth 100000
set_option maxHeartbeats 1000000
namespace PF
open PySem PySem.Spec PyProof.Rows L2 SlX
/-! ### enumerate of a tuple -/
theorem enum1_meets {v : Value} {o : Obj} {Z : Heap → Prop} (B : Begins v o Z) :
    Meets (Builtin.«enumerate.__new__» ⟨[.type "enumerate", v], []⟩) (fun _ R s => Z s.heap ∧
      R (.ok (.ret (.ref (s.heap.push o).objs.size))) { s with heap := (s.heap.push o).push { cls := .type "enumerate", data := .fields #[.none, .bool false, .ref s.heap.objs.size, rawInt 0, .none, .none] } }) :=
  .of_wp fun prog w A R s ⟨h1, h⟩ => by
    obtain ⟨hp, g, d, tk, os⟩ := s
    have sb := sub_enumerate
    have it1 : ∀ {A' : Around} {E Q : Value → Shared → Prop}, Q (.ref hp.objs.size) ⟨hp.push o, g, d, tk, os⟩ → wpAny (model prog w) A' (pyIter v) Q E ⟨hp, g, d, tk, os⟩ := fun q => B.iter _ _ _ _ ⟨hp, g, d, tk, os⟩ _ h1 q
    wp_walk using it1
    refine wpAny_stack_any fun st => wpAny_pure ?_
    split
    · rename_i c _ _ _ _ _
      cases (c == Value.type "enumerate") <;> wp_walk using it1 <;> exact ⟨_, rfl, h⟩
    · wp_walk using it1
      exact ⟨_, rfl, h⟩
theorem enum1_call {prog : Program} {w : World} {A : Around} {E : Value → Shared → Prop} {s : Shared} {v : Value} {o : Obj} {Z : Heap → Prop} {Q : Value → Shared → Prop} (B : Begins v o Z) (h1 : Z s.heap)
    (h : ∀ h', IsEnum h' (s.heap.objs.size + 1) s.heap.objs.size 0 .none → h'.get? s.heap.objs.size = some o → (∀ b u, s.heap.get? b = some u → h'.get? b = some u) → Q (.ref (s.heap.objs.size + 1)) { s with heap := h' }) :
    wpAny (model prog w) A (call (.type "enumerate") [v]) Q E s := by
  refine callType_new F.called_enumerate (by decide) (F.typeCall_enumerate_1 _) (F.newCall_enumerate_1 _) (fun obj => F.args_object_init_2 obj _) F.entry_enumerate_new (enum1_meets B) ⟨h1, ?_⟩
  have sz : (s.heap.push o).objs.size = s.heap.objs.size + 1 := Heap.size_push ..
  show _ ∧ _
  rw [sz]
  have en : IsEnum ((s.heap.push o).push { cls := .type "enumerate", data := .fields #[.none, .bool false, .ref s.heap.objs.size, rawInt 0, .none, .none] }) (s.heap.objs.size + 1) s.heap.objs.size 0 .none := by
    have z := Heap.get?_push_size (s.heap.push o) (o := { cls := .type "enumerate", data := .fields #[.none, .bool false, .ref s.heap.objs.size, rawInt 0, .none, .none] }) rfl
    rw [sz] at z
    exact z
  exact ⟨⟨_, en, rfl⟩, h _ en (Heap.get?_push_of_some _ (Heap.get?_push_size _ B.free)) fun b u x => Heap.get?_push_of_some _ (Heap.get?_push_of_some _ x)⟩
/-- the tuple at a, each item in a new pair -/
def ItEn (K : PySem.W.Frag) (a : Addr) : It :=
  ⟨fun i H => ∃ (xs : List V) (x : V), SqT K H a xs ∧ xs[i]? = some x, fun i H v H' => ∃ T x, v = .ref T ∧ H T = none ∧ H' = upd H T (.tup [.int (i : Nat), x]) ∧ ∀ xs, SqT K H a xs → xs[i]? = some x, fun i H => ∃ xs : List V, SqT K H a xs ∧ xs.length ≤ i⟩
theorem turn_enT {P : Program} {w : World} {K : PySem.W.Frag} {elts : List Expr} {kk : Nat} {tpos : Pos} (a e it : Addr) (n1 : e ≠ it) (n2 : e ≠ a) (n3 : a ≠ it) :
    Turn P w K (.Tuple elts kk tpos) (ItEn K a) [e, it] e (fun i h => (∃ old, IsEnum h e it (0 + (i : Int)) old) ∧ h.IsTupleIter it a i) where
  mem := by simp
  obj := fun i h st b hb => by
    obtain ⟨⟨old, he⟩, o, ho, hc, hd⟩ := st
    rcases List.mem_cons.mp hb with z | z
    · subst z; exact ⟨_, he, fun v q => nomatch q⟩
    · rw [List.mem_singleton.mp z]; exact ⟨o, ho, fun v q => by rw [hd] at q; cases q⟩
  keep := fun i h h' ⟨⟨old, he⟩, hi⟩ k => ⟨⟨old, k e (by simp) _ he⟩, hi.at fun o q => k it (by simp) o q⟩
  item := by
    intro X hP hw hK hc i pins s σ H E I hf st hg
    subst hP hw hK
    obtain ⟨⟨old, he⟩, hit⟩ := st
    obtain ⟨xs, x, hq, hx⟩ := hg
    obtain ⟨its, rv, p, hz⟩ := I.tuple hq
    obtain ⟨u, hu, ru⟩ := rv.get hx
    have lt1 : e < s.heap.objs.size := Heap.lt_size he
    have lt2 : it < s.heap.objs.size := by obtain ⟨_, q, _⟩ := hit; exact Heap.lt_size q
    have W := WalksT.enumFrom (prog := X.prog) (w := X.w) (A := X.A) 0 (Draws.tuple (A := X.A.in1) (I.ok.hd hc) it a n3 its.toArray) e n1 (by simp [n1, n2]) (by simp)
    have hi : i < its.toArray.size := by
      rw [List.size_toArray, ← rv.length]
      exact (List.getElem?_eq_some_iff.mp hx).1
    refine W.item i s _ _ hi ⟨⟨old, he⟩, hit, p⟩ fun T vals h' tk ⟨t, u', hu', ev⟩ hge hT mid k1 => ?_
    refine ⟨_, rfl, W.go elts kk tpos i T { s with heap := h', toks := tk } _ _ mid fun h'' st' k2 => ?_⟩
    have eu : u' = u := by
      rw [List.getElem?_toArray] at hu'
      exact Option.some.inj (hu'.symm.trans hu)
    subst eu ev
    have hT2 : h''.IsTuple T #[.int (0 + (i : Int)) t, u'] := hT.at fun o q => k2 T o (W.apart _ _ _ mid) q
    have nT : H T = none := I.hok.fresh hge
    have new : ObjOk X.prog X.w (upd H T (.tup [.int (i : Nat), x])) h'' T (.tup [.int (i : Nat), x]) :=
      ⟨by show 2 ≤ sizeLine; decide, [.int (0 + (i : Int)) t, u'], .cons ⟨t, by rw [Int.zero_add]⟩ (.cons ru .nil), hT2⟩
    have I1 : Inv X pins σ (upd H T (.tup [.int (i : Nat), x])) { s with heap := h'', toks := tk } :=
      I.turnedNew (ch := [e, it]) (fun b ob hb q => k2 b ob hb (k1 b ob hb q)) hf hge new
    refine ⟨.ref T, _, I1, rfl, ⟨T, x, rfl, nT, rfl, fun ys hy => by rw [I.tuple_inj hy hq]; exact hx⟩, ⟨st'.1, st'.2.1⟩, fun b hb => ?_⟩
    have ltb : b < s.heap.objs.size := by
      rcases List.mem_cons.mp hb with z | z
      · subst z; exact lt1
      · rw [List.mem_singleton.mp z]; exact lt2
    rw [upd_ne (Nat.ne_of_lt (Nat.lt_of_lt_of_le ltb hge))]
    exact (hf b hb).1
  done := by
    intro X hP hw hK hc i pins s σ H E I hf st hg
    subst hP hw hK
    obtain ⟨⟨old, he⟩, hit⟩ := st
    obtain ⟨xs, hq, hx⟩ := hg
    obtain ⟨its, rv, p, hz⟩ := I.tuple hq
    have lt : its.toArray[i]? = none := by
      have := rv.length
      simp
      omega
    unfold pyNext
    refine wpAny_bind (wpAny_attempt (wpAny_callSpecial?_slot (name := Str.ofString "__next__") ⟨_, he, rfl⟩ F.slot_enumerate_next
      (wpAny_call_entry F.slot_enumerate_next ⟨_, he, rfl⟩ F.entry_enumerate_next ?_ (F.args_enumerate_next_1 _))))
    show wpAny _ _ (field (.ref e) 2 >>= _) _ _ _
    refine wpAny_bind (wpAny_field he rfl (x := .ref it) rfl ?_)
    refine wpAny_bind (wpAny_nextOf_tuple_end (I.ok.hd hc) hit p lt fun h' x he' hx' => ?_)
    obtain ⟨o, ho, hc'⟩ := hx'
    refine wpAny_bind (wpAny_isInstance (T := "StopIteration") (b := true) ⟨o, ho, hc'⟩ isSubtype_stop ?_)
    exact wpAny_pure ⟨rfl, I.turnedL (t' := s.toks) (ch := [e, it]) (fun b u hb q => he' b u (fun z => hb (by simp [z])) q) hf⟩
  self := fun A i s Q E st h => let ⟨⟨_, he⟩, _⟩ := st; wpAny_pyIter_enum he h
def iEnT (K : PySem.W.Frag) (ta : TA) : TI := fun σ H R => ta σ H fun vs H1 => ∃ a xs, vs = [.ref a] ∧ SqT K H1 a xs ∧ R (ItEn K a) H1
theorem pi_enT {X : Cx} {e : Expr} {ta : TA} {p pos tpos : Pos} {elts : List Expr} {kk : Nat} (hg : Gl X "enumerate") (hm : X.mg "enumerate" = none) (ha : PA X [e] ta) (hs : starEach [e] X.env = [(false, eval e X.env)] := by rfl) :
    PI X (.Tuple elts kk tpos) (.Call (.Name "enumerate" p) [e] [] pos) (iEnT X.K ta) := by
  refine ⟨fun pins s σ H R I h => ?_⟩
  refine Call_ (ld_blt I hg hm boot_enumerate (PyProof.Rows.callWith_type1 (thn (ha.run pos pins s σ H _ I h) fun us s1 ⟨vs, H1, I1, r1, a, xs, ex, hq, q⟩ => ?_) hs rfl))
  subst ex
  rw [Vals.ref1 r1]
  obtain ⟨its, rv, p', hz⟩ := I1.tuple hq
  have la : a < s1.heap.objs.size := by obtain ⟨_, z, _⟩ := p'; exact Heap.lt_size z
  refine enum1_call (begins_tuple a its.toArray) p' fun h' he hit hk => wpAny_pyIter_enum he ?_
  have I2 : Inv X pins σ H1 { s1 with heap := h' } := I1.kept (t' := s1.toks) hk
  refine ⟨s1.heap.objs.size + 1, [s1.heap.objs.size + 1, s1.heap.objs.size], _, _, H1, rfl, I2, turn_enT a _ _ (Nat.succ_ne_self _) (Nat.ne_of_gt (Nat.lt_succ_of_lt la)) (Nat.ne_of_lt la), ⟨⟨.none, he⟩, ⟨_, hit, rfl, rfl⟩⟩, fun b hb => ?_, q⟩
  have le : s1.heap.objs.size ≤ b := by
    rcases List.mem_cons.mp hb with z | z
    · rw [z]; exact Nat.le_succ _
    · rw [List.mem_singleton.mp z]; exact Nat.le_refl _
  exact I1.fpOk le (I1.hok.fresh le)
section
variable {Γ Γ' Δ α β γ : Type} {μ : Md} {E : EV Γ} {Ra : Rp α} {K : PySem.W.Frag}
def enum0 (xs : List α) : List (Int × α × Unit) := (List.range xs.length).zip xs |>.map fun p => ((p.1 : Int), p.2, ())
theorem enum0_get {xs : List α} {i : Nat} {a : Int × α × Unit} (h : (enum0 xs)[i]? = some a) : a.1 = (i : Int) ∧ xs[i]? = some a.2.1 := by
  unfold enum0 at h
  rw [List.getElem?_map] at h
  cases hq : ((List.range xs.length).zip xs)[i]? with
  | none => rw [hq] at h; cases h
  | some p =>
    rw [hq] at h
    cases h
    obtain ⟨h1, h2⟩ := List.getElem?_zip_eq_some.mp hq
    rw [List.getElem?_eq_some_iff] at h1
    obtain ⟨_, h1⟩ := h1
    rw [List.getElem_range] at h1
    exact ⟨by show ((p.1 : Nat) : Int) = (i : Int); rw [← h1], h2⟩
theorem enum0_len (xs : List α) : (enum0 xs).length = xs.length := by simp [enum0]
theorem i_enT {ta : TE} {ma : Γ → M (List α)} (ha : SE μ E (rTup K Ra) ta ma) : SI μ E (rTx K (aCons rInt (aCons Ra aNil))) (iEnT K (tCons ta tNil)) fun ρ => (ma ρ).bind fun xs => .ret (enum0 xs) := fun k F H σ ρ c W w e h =>
  ha k F H σ ρ c _ w e (wp_imp h fun xs c1 q v F1 H1 x1 w1 ⟨p, vs, ev, hp, al⟩ => by
    refine ⟨p, vs, by rw [ev], same_seqT w1.sub hp, q _ F1 H1 x1 w1 fun i F' H' s1 s2 => ?_⟩
    have sq : SqT K H' p vs := same_seqT s2 (same_seqT s1 hp)
    refine ⟨fun a hz => ?_, fun hi => ⟨vs, sq, by rw [enum0_len] at hi; rw [al.len]; exact hi⟩⟩
    obtain ⟨e1, e2⟩ := enum0_get hz
    obtain ⟨x, hx, rx⟩ := al.get e2
    refine ⟨⟨vs, x, sq, hx⟩, fun z H'' ⟨T, x', ez, nT, eH, g1⟩ => ?_⟩
    have ex : x' = x := Option.some.inj ((g1 _ sq).symm.trans hx)
    subst ex ez eH
    have xn := ExtX.new (p := none) s2 nT (.tup [.int (i : Nat), x'])
    exact ⟨_, xn, T, _, rfl, .of upd_same, .int (i : Nat), _, rfl, by show V.int _ = V.int _; rw [e1], x', _, rfl, Ra.st (s1.trans xn.fz) rx, rfl⟩)
theorem i_enL {ta : TE} {ma : Γ → M (List α)} (ha : SE μ E (rLs Ra) ta ma) : SI μ E (rTx K (aCons rInt (aCons Ra aNil))) (iEnum K (tCons ta tNil)) fun ρ => (ma ρ).bind fun xs => .ret (enum0 xs) := fun k F H σ ρ c W w e h =>
  ha k F H σ ρ c _ w e (wp_imp h fun xs c1 q v F1 H1 x1 w1 ⟨p, vs, ev, hp, al⟩ => by
    refine ⟨p, vs, by rw [ev], .of (w1.sub _ _ hp), q _ F1 H1 x1 w1 fun i F' H' s1 s2 => ?_⟩
    have sq : SqL K H' p vs := .of (s2 _ _ (s1 _ _ hp))
    refine ⟨fun a hz => ?_, fun hi => ⟨vs, sq, by rw [enum0_len] at hi; rw [al.len]; exact hi⟩⟩
    obtain ⟨e1, e2⟩ := enum0_get hz
    obtain ⟨x, hx, rx⟩ := al.get e2
    refine ⟨⟨vs, x, sq, hx⟩, fun z H'' ⟨T, x', ez, nT, eH, g1⟩ => ?_⟩
    have ex : x' = x := Option.some.inj ((g1 _ sq).symm.trans hx)
    subst ex ez eH
    have xn := ExtX.new (p := none) s2 nT (.tup [.int (i : Nat), x'])
    exact ⟨_, xn, T, _, rfl, .of upd_same, .int (i : Nat), _, rfl, by show V.int _ = V.int _; rw [e1], x', _, rfl, Ra.st (s1.trans xn.fz) rx, rfl⟩)
end
end PF

set_option Elab.async false
set_option linter.all false
set_option maxRecDepth 100000
set_option maxHeartbeats 3200000
namespace PF
open PySem PySem.Spec PyProof.Rows L2 SlX
/-! ### sets of texts -/
/-- each once, in their order -/
def ddS (xs : List Str) : List Str := xs.foldl (fun l x => if x ∈ l then l else l ++ [x]) []
theorem ddS_snoc (xs : List Str) (x : Str) : ddS (xs ++ [x]) = if x ∈ ddS xs then ddS xs else ddS xs ++ [x] := by
  unfold ddS
  rw [List.foldl_append]
  rfl
theorem ddS_prop (xs : List Str) : (∀ x, x ∈ ddS xs ↔ x ∈ xs) ∧ (ddS xs).Nodup := by
  suffices h : ∀ (n : Nat) (xs : List Str), xs.length = n → (∀ x, x ∈ ddS xs ↔ x ∈ xs) ∧ (ddS xs).Nodup from h _ xs rfl
  intro n
  induction n with
  | zero =>
    intro xs h
    obtain rfl := List.eq_nil_of_length_eq_zero h
    exact ⟨fun x => Iff.rfl, List.nodup_nil⟩
  | succ n ih =>
    intro xs h
    obtain ⟨ys, y, rfl⟩ : ∃ ys y, xs = ys ++ [y] := ⟨xs.dropLast, xs.getLast (by intro z; rw [z] at h; cases h), (List.dropLast_concat_getLast _).symm⟩
    obtain ⟨i1, i2⟩ := ih ys (by rw [List.length_append] at h; simpa using h)
    rw [ddS_snoc]
    by_cases c : y ∈ ddS ys
    · rw [if_pos c]
      refine ⟨fun x => ?_, i2⟩
      rw [i1, List.mem_append, List.mem_singleton]
      exact ⟨.inl, fun z => z.elim id fun e => e ▸ (i1 y).mp c⟩
    · rw [if_neg c]
      refine ⟨fun x => by rw [List.mem_append, List.mem_append, i1], ?_⟩
      rw [List.nodup_append]
      exact ⟨i2, by simp, fun a ha b hb e => c (by rw [← List.mem_singleton.mp hb, ← e]; exact ha)⟩
/-- the same members: the same number -/
theorem ddS_perm {xs ys : List Str} (h : ∀ k, k ∈ xs ↔ k ∈ ys) : (ddS xs).length = (ddS ys).length := by
  obtain ⟨a1, a2⟩ := ddS_prop xs
  obtain ⟨b1, b2⟩ := ddS_prop ys
  exact ((List.perm_ext_iff_of_nodup a2 b2).mpr fun k => by rw [a1, b1, h]).length_eq
theorem nd_len {α : Type} [BEq α] [LawfulBEq α] : ∀ {xs ys : List α}, xs.Nodup → (∀ x, x ∈ xs → x ∈ ys) → xs.length ≤ ys.length
  | [], _, _, _ => Nat.zero_le _
  | x :: xs, ys, nd, h => by
    obtain ⟨n1, n2⟩ := List.nodup_cons.mp nd
    have hx := h x (List.mem_cons_self ..)
    have z := nd_len (ys := ys.erase x) n2 fun y hy => (List.mem_erase_of_ne fun e => n1 (by rw [← e]; exact hy)).mpr (h y (List.mem_cons_of_mem _ hy))
    rw [List.length_erase_of_mem hx] at z
    have := List.length_pos_of_mem hx
    rw [List.length_cons]
    omega
theorem ddS_sub {xs ys : List Str} (h : ∀ k, k ∈ xs → k ∈ ys) (e : (ddS xs).length = (ddS ys).length) : ∀ k, k ∈ ys → k ∈ xs := fun k hk => by
  obtain ⟨a1, a2⟩ := ddS_prop xs
  obtain ⟨b1, b2⟩ := ddS_prop ys
  refine Decidable.byContradiction fun c => ?_
  have z := nd_len (xs := k :: ddS xs) (ys := ddS ys) (List.nodup_cons.mpr ⟨fun q => c ((a1 k).mp q), a2⟩) fun x hx => by
    rcases List.mem_cons.mp hx with q | q
    · rw [q]; exact (b1 k).mpr hk
    · exact (b1 x).mpr (h x ((a1 x).mp q))
  rw [List.length_cons] at z
  omega
def SetS (P : Program) (w : World) (h : Heap) (a : Addr) (xs : List Str) : Prop := h.SetOf (PySem.strKind P w) a (fun k => decide (k ∈ xs)) (ddS xs).length
theorem SetS.at {P : Program} {w : World} {h h' : Heap} {a : Addr} {xs : List Str} (z : SetS P w h a xs) (k : ∀ o, h.get? a = some o → h'.get? a = some o) : SetS P w h' a xs := by
  obtain ⟨o, es, ep, t, e, r⟩ := z
  exact ⟨o, es, ep, t, k o e, r⟩
section
variable {P : Program} {w : World} {A : Around} {E : Value → Shared → Prop} {s : Shared}
theorem fill_texts {I : Addr} {fp wr : List Addr} {G : Array GenState → Array GenState → Prop} {n : Nat} {Pv : Nat → Value → Prop} {St : Nat → Shared → Prop} {R : Result → Shared → Prop}
    (W : WalksS P w A.in1 I fp wr G n Pv St) (D : Addr) (nD : D ∉ fp) (xs : List Str) (hn : n = xs.length) (hb : xs.length + 1 < scanBound) (val : ∀ i v, Pv i v → ∃ x t, xs[i]? = some x ∧ v = .str x t) :
    ∀ (m i : Nat) (s : Shared), n - i = m → i ≤ n → St i s → SetS P w s.heap D (xs.take i) → (∀ s', Moved (D :: wr) G s s' → SetS P w s'.heap D xs → R (.ok (.ret .none)) s') →
      codeAny (model P w) A (.builtin "set.update.loop" ⟨[.ref D, .ref I], []⟩) R s := by
  have nw : D ∉ wr := fun z => nD (W.sub _ z)
  have sb : ∀ b ∈ wr, b ∈ D :: wr := fun b z => List.mem_cons_of_mem _ z
  have small : ∀ i, (ddS (xs.take i)).length ≤ xs.length := fun i => by
    obtain ⟨d1, d2⟩ := ddS_prop (xs.take i)
    exact Nat.le_trans (nd_len d2 fun x hx => (d1 x).mp hx) (by rw [List.length_take]; exact Nat.min_le_right _ _)
  intro m
  induction m with
  | zero =>
    intro i s e hi st z hR
    obtain rfl : i = n := by omega
    refine codeAny_builtin F.entry_set_update_loop ?_
    rw [Around.under_plainId F.plain_set_update_loop _]
    show wpAny _ A.in1 (pyNext (.ref I) >>= _) _ _ s
    refine wpAny_bind (W.done s _ _ st fun s' mv => ?_)
    show wpAny _ A.in1 (ret Value.none) _ _ s'
    rw [List.take_of_length_le (by omega)] at z
    exact wpAny_pure (hR s' (mv.mono sb) (z.at fun o q => mv.heap D o nw q))
  | succ m ih =>
    intro i s e hi st z hR
    have lt : i < n := by omega
    refine codeAny_builtin F.entry_set_update_loop ?_
    rw [Around.under_plainId F.plain_set_update_loop _]
    show wpAny _ A.in1 (pyNext (.ref I) >>= _) _ _ s
    refine wpAny_bind (W.item i s _ _ lt st fun v s' hP st' mv => ?_)
    obtain ⟨x, t, hx, rfl⟩ := val i v hP
    have z' : SetS P w s'.heap D (xs.take i) := z.at fun o q => mv.heap D o nw q
    show wpAny _ A.in1 (holding [Value.str x t] (setAdd D (.str x t)) >>= _) _ _ s'
    refine wpAny_bind (wpAny_holding ?_)
    unfold setAdd
    refine wpAny_holding ?_
    refine wpAny_bind ((PySem.strKind P w).pyHash (k := x) (strKind_is _ _ _ _) ?_)
    refine wpAny_setAddHashed_of (knd := PySem.strKind P w) (s := { s' with toks := s'.toks + 1 }) (strKind_is _ _ _ _) rfl z' (by have := small i; omega) fun h' same z2 => ?_
    have et : xs.take (i + 1) = xs.take i ++ [x] := by rw [List.take_add_one, hx]; rfl
    have z3 : SetS P w h' D (xs.take (i + 1)) := by
      unfold SetS
      rw [et, ddS_snoc]
      refine SetOf_congr z2 (fun k => ?_) ?_
      · show (decide (k ∈ xs.take i) || decide (k = x)) = decide (k ∈ xs.take i ++ [x])
        simp [List.mem_append]
      · show (if decide (x ∈ xs.take i) = true then _ else _) = _
        by_cases c : x ∈ xs.take i
        · rw [if_pos (by simpa using c), if_pos (((ddS_prop _).1 x).mpr c)]
        · rw [if_neg (by simpa using c), if_neg fun q => c (((ddS_prop _).1 x).mp q), List.length_append]
          rfl
    refine wpAny_pure ⟨plainId_quiet F.plain_set_update_loop _, ih (i + 1) _ (by omega) lt (W.frame _ s' _ _ st' (Nat.le_succ _) fun b hb o q => ?_) z3 fun s'' mv2 z4 => ?_⟩
    · rw [same.2 b (fun q2 : b = D => nD (by rw [← q2]; exact hb))]; exact q
    · refine hR s'' (Moved.trans W.gtrans ((mv.mono sb).then_heap (Nat.le_succ _) fun b o nb q => ?_) mv2) z4
      rw [same.2 b (fun q2 : b = D => nb (by rw [q2]; exact List.mem_cons_self))]; exact q

/-- set(v), v a list of texts: D its new object -/
theorem set_of_listS {l : Addr} {items : Array Value} {xs : List Str} {Q : Value → Shared → Prop} (hh : A.handled = none) (hl : s.heap.IsList l items) (hi : StrsAre items.toList xs) (hb : xs.length + 1 < scanBound)
    (h : ∀ (h' : Heap) (tk : Nat), SetS P w h' s.heap.objs.size xs → (∀ b o, s.heap.get? b = some o → h'.get? b = some o) → Q (.ref s.heap.objs.size) { s with heap := h', toks := tk }) :
    wpAny (model P w) A (call (.type "set") [.ref l]) Q E s := by
  have len : items.size = xs.length := by rw [← StrsAre.len_eq hi, Array.length_toList]
  obtain ⟨c, tl, hmro⟩ := F.called_set.mro
  have made := F.called_set.made
  have sub1 := F.called_set.sub
  refine wpAny_call (codeAny_of_tree ?_)
  show wpAny _ _ (callAny (.type "set") _) _ _ _
  refine wpAny_pure ⟨Code.quiet_builtin _ (by decide +kernel), codeAny_builtin F.entry_type_call ?_⟩
  rw [Around.under_plain (weight_type_call_type "set" [.ref l] []) rfl]
  have nt := F.called_set.notType
  have cc := F.called_set.canCreate
  have tc := F.typeCall_set_1 (.ref l)
  repeat (any_goals (first | assumption | wp_step))
  generalize hq0 : (!w.params.followText "set-order") = led
  let ob : Obj := { cls := .type "set", dict := none, data := .set #[] 0 (.fresh 0 0 led) }
  refine codeAny_mono (code_set_led1 (.ref l) (E := E) (Q₁ := fun obj s₁ => obj = .ref s.heap.objs.size ∧ s₁ = { s with heap := s.heap.push ob }) ⟨rfl, by rw [hq0]⟩) fun r s₁ hr => ?_
  cases r with
  | error e => exact hr
  | ok fl =>
    cases fl with
    | ret obj =>
      obtain ⟨rfl, rfl⟩ := hr
      have atD : (s.heap.push ob).get? s.heap.objs.size = some ob := Heap.get?_push_size _ rfl
      have tyD : Shared.TypeIs { s with heap := s.heap.push ob } (.ref s.heap.objs.size) "set" := ⟨_, atD, rfl⟩
      have li := F.called_set.init.lookup
      have bi := F.called_set.init.bind (.ref s.heap.objs.size)
      repeat (any_goals (first | assumption | wp_step))
      refine codeAny_mono (codeAny_call_builtin (R := wants (fun r s₂ => r = .none ∧ ∃ h' tk, s₂ = { s with heap := h', toks := tk } ∧ SetS P w h' s.heap.objs.size xs ∧ (∀ b o, s.heap.get? b = some o → h'.get? b = some o)) E)
        F.called_set.init.plain F.entry_set_init (check_set_init_1 tyD ?_)) fun r₂ s₂ hr₂ => ?_
      · obtain ⟨ol, hol, hcl, nl, hdl⟩ := hl
        obtain ⟨ocls, odict, odata, oslots⟩ := ol
        simp only at hcl hdl
        subst hcl; subst hdl
        have hol' : (s.heap.push ob).get? l = some { cls := .type "list", dict := odict, data := .seq items nl, slots := oslots } := Heap.get?_push_of_some _ hol
        have s1 := F.sub_list_set
        have s2 := F.sub_list_frozenset
        have ne : (Value.type "list" == Value.type "dict") = false := by decide
        have hl1 : (s.heap.push ob).IsList l items := ⟨_, hol', rfl, nl, rfl⟩
        unfold Builtin.«set.__init__» noKeywords Builtin.Frozenset.updateFrom
        generalize hPI : pyIter = PI
        wp_walk
        subst hPI
        refine wpAny_pyIter_list hl1 ?_
        refine wpAny_bind (wpAny_runValue ?_)
        have ltl : l < s.heap.objs.size := Heap.lt_size hol
        have h3 : A.in1.in1.in1.handled = none := by simp [hh]
        have sz : (s.heap.push ob).objs.size = s.heap.objs.size + 1 := Heap.size_push ..
        have n1 : l ≠ (s.heap.push ob).objs.size := by rw [sz]; exact Nat.ne_of_lt (Nat.lt_succ_of_lt ltl)
        have n2 : s.heap.objs.size ∉ [(s.heap.push ob).objs.size, l] := by
          rw [sz]; simp only [List.mem_cons, List.not_mem_nil, or_false, not_or]
          exact ⟨Nat.ne_of_lt (Nat.lt_succ_self _), Nat.ne_of_gt ltl⟩
        have val : ∀ (i : Nat) (v : Value), items[i]? = some v → ∃ x t, xs[i]? = some x ∧ v = .str x t := fun i v hv => by
          have hi2 : i < xs.length := by rw [← len]; exact (Array.getElem?_eq_some_iff.mp hv).1
          obtain ⟨t, e⟩ := SS.strs_at hi i v (by rw [Array.getElem?_toList]; exact hv)
          refine ⟨xs[i], t, List.getElem?_eq_getElem hi2, ?_⟩
          rw [e, List.getD_eq_getElem?_getD, List.getElem?_eq_getElem hi2] <;> rfl
        refine fill_texts ((Walks.list h3 _ l n1 items).toS) s.heap.objs.size n2 xs len hb val (items.size - 0) 0 _ (by omega) (Nat.zero_le _) ⟨⟨_, Heap.get?_push_size _ rfl, rfl, rfl⟩, (hl1.push _)⟩ ?hS0 ?hR
        case hS0 =>
          have g0 : ((s.heap.push ob).push { cls := .type "list_iterator", data := .fields #[.ref l, .int 0 0] }).get? s.heap.objs.size = some ob := Heap.get?_push_of_some _ atD
          exact SetOf_congr ((setObjOf_fresh (knd := PySem.strKind P w) led).setOf g0 (by unfold scanBound; omega)) (fun _ => by simp) rfl
        case hR =>
          intro s' mv z
          obtain ⟨h', g2, d', tk', os'⟩ := s'
          obtain rfl : g2 = s.gens := mv.gens
          obtain rfl : d' = s.drawn := mv.drawn
          obtain rfl : os' = s.os := mv.os
          show wpAny _ _ _ _ _ _
          refine wpAny_pure ?_
          show wpAny _ _ (ret Value.none) _ _ _
          refine wpAny_pure ⟨rfl, h', tk', rfl, z, fun b o e => ?_⟩
          have b0 : b < s.heap.objs.size := Heap.lt_size e
          exact mv.heap b o (by rw [sz]; simp only [List.mem_cons, List.not_mem_nil, or_false, not_or]; exact ⟨Nat.ne_of_lt b0, Nat.ne_of_lt (Nat.lt_succ_of_lt b0)⟩) (Heap.get?_push_of_some _ (Heap.get?_push_of_some _ e))
      · cases r₂ with
        | error e => exact hr₂
        | ok fl₂ =>
          cases fl₂ with
          | ret r =>
            obtain ⟨rfl, h', tk, rfl, z, kk⟩ := hr₂
            repeat (any_goals (first | assumption | wp_step))
            exact h _ _ z kk
          | _ => exact hr₂.elim
    | _ => exact hr.elim

/-- set(v), v a tuple of texts: D its new object -/
theorem set_of_tupleS {l : Addr} {items : Array Value} {xs : List Str} {Q : Value → Shared → Prop} (hh : A.handled = none) (hl : s.heap.IsTuple l items) (hi : StrsAre items.toList xs) (hb : xs.length + 1 < scanBound)
    (h : ∀ (h' : Heap) (tk : Nat), SetS P w h' s.heap.objs.size xs → (∀ b o, s.heap.get? b = some o → h'.get? b = some o) → Q (.ref s.heap.objs.size) { s with heap := h', toks := tk }) :
    wpAny (model P w) A (call (.type "set") [.ref l]) Q E s := by
  have len : items.size = xs.length := by rw [← StrsAre.len_eq hi, Array.length_toList]
  obtain ⟨c, tl, hmro⟩ := F.called_set.mro
  have made := F.called_set.made
  have sub1 := F.called_set.sub
  refine wpAny_call (codeAny_of_tree ?_)
  show wpAny _ _ (callAny (.type "set") _) _ _ _
  refine wpAny_pure ⟨Code.quiet_builtin _ (by decide +kernel), codeAny_builtin F.entry_type_call ?_⟩
  rw [Around.under_plain (weight_type_call_type "set" [.ref l] []) rfl]
  have nt := F.called_set.notType
  have cc := F.called_set.canCreate
  have tc := F.typeCall_set_1 (.ref l)
  repeat (any_goals (first | assumption | wp_step))
  generalize hq0 : (!w.params.followText "set-order") = led
  let ob : Obj := { cls := .type "set", dict := none, data := .set #[] 0 (.fresh 0 0 led) }
  refine codeAny_mono (code_set_led1 (.ref l) (E := E) (Q₁ := fun obj s₁ => obj = .ref s.heap.objs.size ∧ s₁ = { s with heap := s.heap.push ob }) ⟨rfl, by rw [hq0]⟩) fun r s₁ hr => ?_
  cases r with
  | error e => exact hr
  | ok fl =>
    cases fl with
    | ret obj =>
      obtain ⟨rfl, rfl⟩ := hr
      have atD : (s.heap.push ob).get? s.heap.objs.size = some ob := Heap.get?_push_size _ rfl
      have tyD : Shared.TypeIs { s with heap := s.heap.push ob } (.ref s.heap.objs.size) "set" := ⟨_, atD, rfl⟩
      have li := F.called_set.init.lookup
      have bi := F.called_set.init.bind (.ref s.heap.objs.size)
      repeat (any_goals (first | assumption | wp_step))
      refine codeAny_mono (codeAny_call_builtin (R := wants (fun r s₂ => r = .none ∧ ∃ h' tk, s₂ = { s with heap := h', toks := tk } ∧ SetS P w h' s.heap.objs.size xs ∧ (∀ b o, s.heap.get? b = some o → h'.get? b = some o)) E)
        F.called_set.init.plain F.entry_set_init (check_set_init_1 tyD ?_)) fun r₂ s₂ hr₂ => ?_
      · obtain ⟨ol, hol, hcl, nl, hdl⟩ := hl
        obtain ⟨ocls, odict, odata, oslots⟩ := ol
        simp only at hcl hdl
        subst hcl; subst hdl
        have hol' : (s.heap.push ob).get? l = some { cls := .type "tuple", dict := odict, data := .seq items nl, slots := oslots } := Heap.get?_push_of_some _ hol
        have s1 := F.sub_tuple_set
        have s2 := F.sub_tuple_frozenset
        have ne : (Value.type "tuple" == Value.type "dict") = false := by decide
        have hl1 : (s.heap.push ob).IsTuple l items := ⟨_, hol', rfl, nl, rfl⟩
        unfold Builtin.«set.__init__» noKeywords Builtin.Frozenset.updateFrom
        generalize hPI : pyIter = PI
        wp_walk
        subst hPI
        refine wpAny_pyIter_tuple hl1 ?_
        refine wpAny_bind (wpAny_runValue ?_)
        have ltl : l < s.heap.objs.size := Heap.lt_size hol
        have h3 : A.in1.in1.in1.handled = none := by simp [hh]
        have sz : (s.heap.push ob).objs.size = s.heap.objs.size + 1 := Heap.size_push ..
        have n1 : l ≠ (s.heap.push ob).objs.size := by rw [sz]; exact Nat.ne_of_lt (Nat.lt_succ_of_lt ltl)
        have n2 : s.heap.objs.size ∉ [(s.heap.push ob).objs.size, l] := by
          rw [sz]; simp only [List.mem_cons, List.not_mem_nil, or_false, not_or]
          exact ⟨Nat.ne_of_lt (Nat.lt_succ_self _), Nat.ne_of_gt ltl⟩
        have val : ∀ (i : Nat) (v : Value), items[i]? = some v → ∃ x t, xs[i]? = some x ∧ v = .str x t := fun i v hv => by
          have hi2 : i < xs.length := by rw [← len]; exact (Array.getElem?_eq_some_iff.mp hv).1
          obtain ⟨t, e⟩ := SS.strs_at hi i v (by rw [Array.getElem?_toList]; exact hv)
          refine ⟨xs[i], t, List.getElem?_eq_getElem hi2, ?_⟩
          rw [e, List.getD_eq_getElem?_getD, List.getElem?_eq_getElem hi2] <;> rfl
        refine fill_texts ((Walks.tuple h3 _ l n1 items).toS) s.heap.objs.size n2 xs len hb val (items.size - 0) 0 _ (by omega) (Nat.zero_le _) ⟨⟨_, Heap.get?_push_size _ rfl, rfl, rfl⟩, (hl1.push _)⟩ ?hS0 ?hR
        case hS0 =>
          have g0 : ((s.heap.push ob).push { cls := .type "tuple_iterator", data := .fields #[.ref l, .int 0 0] }).get? s.heap.objs.size = some ob := Heap.get?_push_of_some _ atD
          exact SetOf_congr ((setObjOf_fresh (knd := PySem.strKind P w) led).setOf g0 (by unfold scanBound; omega)) (fun _ => by simp) rfl
        case hR =>
          intro s' mv z
          obtain ⟨h', g2, d', tk', os'⟩ := s'
          obtain rfl : g2 = s.gens := mv.gens
          obtain rfl : d' = s.drawn := mv.drawn
          obtain rfl : os' = s.os := mv.os
          show wpAny _ _ _ _ _ _
          refine wpAny_pure ?_
          show wpAny _ _ (ret Value.none) _ _ _
          refine wpAny_pure ⟨rfl, h', tk', rfl, z, fun b o e => ?_⟩
          have b0 : b < s.heap.objs.size := Heap.lt_size e
          exact mv.heap b o (by rw [sz]; simp only [List.mem_cons, List.not_mem_nil, or_false, not_or]; exact ⟨Nat.ne_of_lt b0, Nat.ne_of_lt (Nat.lt_succ_of_lt b0)⟩) (Heap.get?_push_of_some _ (Heap.get?_push_of_some _ e))
      · cases r₂ with
        | error e => exact hr₂
        | ok fl₂ =>
          cases fl₂ with
          | ret r =>
            obtain ⟨rfl, h', tk, rfl, z, kk⟩ := hr₂
            repeat (any_goals (first | assumption | wp_step))
            exact h _ _ z kk
          | _ => exact hr₂.elim
    | _ => exact hr.elim
end
end PF

set_option Elab.async false
set_option linter.all false
set_option maxRecDepth 100000
set_option maxHeartbeats 3200000
namespace PF
open PySem PySem.Spec PyProof.Rows L2 SlX
/-! ### sets of texts, compared -/
theorem entry_seteq : entryFor table "set.__eq__" = some Builtin.«frozenset.__eq__» :=
  entryFor_alias (id' := "frozenset.__eq__") (by kernel_rfl) rfl (by decide +kernel) (by kernel_rfl)
section
variable {P : Program} {w : World} {A : Around} {E : Value → Shared → Prop} {s : Shared}
def inTs (ys : List Str) : Int × Value → Bool
  | (_, .str x _) => decide (x ∈ ys)
  | _ => false
/-- a loop that goes through, or ends at the first that is none -/
theorem loop_all {α β : Type} {b b' : β} {f : α → β → Sem (ForInStep β)} {p : α → Bool} {Q : β → Shared → Prop} : ∀ {l : List α}, (∀ x ∈ l, ∀ Q' : ForInStep β → Shared → Prop, Q' (if p x then .yield b else .done b') s → wpAny (model P w) A (f x b) Q' E s) → Q (if l.all p then b else b') s →
    wpAny (model P w) A (forIn l b f) Q E s
  | [], _, h => by
    rw [List.forIn_nil]
    exact wpAny_pure h
  | x :: l, hf, h => by
    rw [List.forIn_cons]
    refine wpAny_bind (hf x (List.mem_cons_self ..) _ ?_)
    rw [List.all_cons] at h
    cases e : p x with
    | true =>
      rw [e] at h
      exact loop_all (fun y hy => hf y (List.mem_cons_of_mem _ hy)) h
    | false =>
      rw [e] at h
      exact wpAny_pure h
/-- what a set's entries are, with their number -/
theorem entries_at {a : Addr} {xs : List Str} {Q : Array (Int × Value) → Shared → Prop} (z : SetS P w s.heap a xs)
    (h : ∀ es : Array (Int × Value), es.size = (ddS xs).length → (∀ e ∈ es.toList, ∃ x t, e = (hashStr w x, .str x t) ∧ x ∈ xs) → (∀ x ∈ xs, ∃ t, (hashStr w x, Value.str x t) ∈ es.toList) → Q es s) :
    wpAny (model P w) A (setEntries a) Q E s := by
  obtain ⟨o, es, ep, t, ho, hx, hd, hel, hm, hb, hf, hn⟩ := z
  have one : ∀ e ∈ es.toList, ∃ x t, e = (hashStr w x, .str x t) ∧ x ∈ xs := fun e he => by
    obtain ⟨⟨x, h1, h2⟩, _⟩ := hel e he
    obtain ⟨t, ht⟩ := Value.isStrOf_shape h1
    obtain ⟨e1, e2⟩ := e
    simp only at ht h2
    subst ht h2
    exact ⟨x, t, rfl, by simpa using (hm x).mpr ⟨_, he, h1⟩⟩
  refine wpAny_setEntries_of ho hd hf (h es hn one fun x hx => ?_)
  obtain ⟨e, he, h1⟩ := (hm x).mp (by simpa using hx)
  obtain ⟨y, t, rfl, _⟩ := one e he
  obtain rfl : x = y := (PySem.strKind P w).inj _ _ _ h1 (strKind_is P w y t)
  exact ⟨_, he⟩
theorem sub_texts {a b : Addr} {xs ys : List Str} {nm : String} {Q : Bool → Shared → Prop} (z1 : SetS P w s.heap a xs) (z2 : SetS P w s.heap b ys) (le : ¬ (ddS xs).length > (ddS ys).length) (h : ∀ r : Bool, (r = true ↔ ∀ k, k ∈ xs → k ∈ ys) → Q r s) :
    wpAny (model P w) A (Builtin.Frozenset.subsetOf nm a b) Q E s := by
  unfold Builtin.Frozenset.subsetOf Builtin.Frozenset.sizeOf
  refine wpAny_bind (wpAny_bind (entries_at z1 fun es n1 e1 e1' => wpAny_pure ?_))
  refine wpAny_bind (wpAny_bind (entries_at z2 fun es' n2 e2 _ => wpAny_pure ?_))
  rw [n1, n2, if_neg le]
  obtain ⟨o0, es0, ep0, t0, ho0, hx0, hd0, hel0, hm0, hb0, hf0, hn0⟩ := id z1
  have ep : ∀ {A' : Around} {Q' : Nat → Shared → Prop} {E' : Value → Shared → Prop}, Q' ep0 s → wpAny (model P w) A' (setEpoch a) Q' E' s := fun q => wpAny_setEpoch_of ho0 hd0 hf0 q
  refine wpAny_bind (ep ?_)
  have quiet : ∀ (l : List (Int × Value)), (∀ e ∈ l, ∃ x t, e.2 = Value.str x t) → ∀ {A' : Around} {E' : Value → Shared → Prop} {Q' : Option (List (Int × Value)) × Unit → Shared → Prop}, Q' (none, ()) s →
      wpAny (model P w) A' (forIn l ((none : Option (List (Int × Value))), ()) fun x __s => do
        let b ← Builtin.Frozenset.quietEq x.2
        if (!b) = true then do
          let r ← Builtin.Frozenset.walk a
          pure (ForInStep.done (some r, ()))
        else pure (ForInStep.yield (none, ()))) Q' E' s := fun l hl {A' E' Q'} q => by
    refine loop_all (b := (none, ())) (b' := (none, ())) (p := fun _ => true) (fun e he Q'' q2 => ?_) (by split <;> exact q)
    obtain ⟨x, t, ex⟩ := hl e he
    rw [ex]
    refine wpAny_bind (wpAny_pure ?_)
    exact wpAny_pure q2
  have seen : ∀ {A' : Around} {E' : Value → Shared → Prop}, wpAny (model P w) A' (Builtin.Frozenset.walkUnseen a b) (fun l s' => s' = s ∧ (∀ e ∈ l, ∃ x t, e = (hashStr w x, Value.str x t) ∧ x ∈ xs) ∧ ∀ x ∈ xs, ∃ t, (hashStr w x, Value.str x t) ∈ l) E' s := fun {A' E'} => by
    unfold Builtin.Frozenset.walkUnseen
    refine wpAny_bind (entries_at z1 fun fs _ f1 f1' => ?_)
    refine wpAny_bind (entries_at z2 fun gs _ g1 _ => ?_)
    refine wpAny_bind (quiet _ (fun e he => ?_) (wpAny_pure ⟨rfl, f1, f1'⟩))
    rcases List.mem_append.mp he with z | z
    · obtain ⟨x, t, rfl, _⟩ := f1 e z; exact ⟨x, t, rfl⟩
    · obtain ⟨x, t, rfl, _⟩ := g1 e z; exact ⟨x, t, rfl⟩
  refine wpAny_bind (wpAny_mono seen (fun l s' ⟨e3, f1, f1'⟩ => ?_) fun _ _ x => x)
  subst e3
  refine wpAny_bind (loop_all (b := (none, ())) (b' := (some false, ())) (p := inTs ys) (fun e he Q' q => ?_) ?_)
  · obtain ⟨x, t, rfl, hx⟩ := f1 e he
    show wpAny _ _ (holding [Value.str x t] (setFind b (.str x t) (hashStr w x)) >>= _) _ _ _
    refine wpAny_bind (wpAny_holding (wpAny_setFind_of (knd := PySem.strKind P w) (strKind_is P w x t) rfl z2 fun r hr => ?_))
    have q' : Q' (if decide (x ∈ ys) = true then .yield (none, ()) else .done (some false, ())) _ := q
    by_cases c : x ∈ ys
    · have er : r.isNone = false := by rw [decide_eq_true c] at hr; cases r <;> simp_all
      rw [er, if_neg Bool.false_ne_true]
      rw [if_pos (decide_eq_true c)] at q'
      unfold Builtin.Frozenset.unchanged
      refine wpAny_bind (wpAny_bind (ep ?_))
      rw [bne_self_eq_false, if_neg Bool.false_ne_true]
      exact wpAny_pure (wpAny_pure q')
    · have er : r.isNone = true := by rw [decide_eq_false c] at hr; cases r <;> simp_all
      rw [er, if_pos rfl]
      rw [if_neg (by simpa using c)] at q'
      exact wpAny_pure q'
  · by_cases c : ∀ k, k ∈ xs → k ∈ ys
    · rw [if_pos]
      · exact wpAny_pure (h true ⟨fun _ => c, fun _ => rfl⟩)
      · refine List.all_eq_true.mpr fun e he => ?_
        obtain ⟨x, t, rfl, hx⟩ := f1 e he
        exact decide_eq_true (c x hx)
    · rw [if_neg]
      · exact wpAny_pure (h false ⟨fun q => (nomatch q), fun q => absurd q c⟩)
      · intro q
        refine c fun k hk => ?_
        obtain ⟨t, ht⟩ := f1' k hk
        exact of_decide_eq_true (List.all_eq_true.mp q _ ht)
theorem eq_texts {a b : Addr} {xs ys : List Str} {Q : Value → Shared → Prop} (z1 : SetS P w s.heap a xs) (z2 : SetS P w s.heap b ys) (hu : A.units < cLine) (h : ∀ r : Bool, (r = true ↔ ∀ k, k ∈ xs ↔ k ∈ ys) → Q (.bool r) s) :
    wpAny (model P w) A (compareOp .Eq (.ref a) (.ref b)) Q E s := by
  have t1 := Heap.SetOf.typeIs z1
  have t2 := Heap.SetOf.typeIs z2
  refine wpAny_richCompare_same_room (op := .Eq) t1 t2 PySem.F.slot_set_eq (wpAny_call_entry PySem.F.slot_set_eq t1 entry_seteq ?_ (PySem.F.args_set_eq_2 _ _)) hu
  show wpAny _ _ (Builtin.Frozenset.slot1 "__eq__" _ >>= _) _ _ s
  refine wpAny_bind (m := Builtin.Frozenset.slot1 "__eq__" _) (wpAny_of_eq (a := (Value.ref a, Value.ref b)) (by rfl) ?_)
  show wpAny _ _ (Builtin.Frozenset.isAnySet (.ref b) >>= _) _ _ s
  have any1 : ∀ {A' : Around} {Q' : Bool → Shared → Prop} {E' : Value → Shared → Prop}, Q' true s → wpAny (model P w) A' (Builtin.Frozenset.isAnySet (.ref b)) Q' E' s := fun q => by
    unfold Builtin.Frozenset.isAnySet
    refine wpAny_bind (wpAny_isInstance t2 PySem.F.sub_set_set ?_)
    exact wpAny_pure q
  refine wpAny_bind (any1 ?_)
  simp only [Bool.not_true, Bool.false_eq_true, if_false]
  refine wpAny_bind (m := Builtin.Frozenset.addrOf _) (wpAny_pure ?_)
  refine wpAny_bind (m := Builtin.Frozenset.addrOf _) (wpAny_pure ?_)
  unfold Builtin.Frozenset.sizeOf
  refine wpAny_bind (wpAny_bind (entries_at z1 fun es n1 _ _ => wpAny_pure ?_))
  refine wpAny_bind (wpAny_bind (entries_at z2 fun es' n2 _ _ => wpAny_pure ?_))
  rw [n1, n2]
  by_cases c : (ddS xs).length = (ddS ys).length
  · rw [c]
    simp only [bne_self_eq_false, Bool.false_eq_true, if_false]
    refine wpAny_bind (wpAny_bind (wpAny_bind (wpAny_isInstance t1 PySem.F.sub_set_frozenset (wpAny_pure ?_))))
    simp only [Bool.false_eq_true, if_false]
    refine sub_texts z1 z2 (by omega) fun r hr => ?_
    refine wpAny_pure ⟨_, rfl, (by intro z; cases z), h r ⟨fun q k => ⟨hr.mp q k, ddS_sub (hr.mp q) c k⟩, fun q => hr.mpr fun k hk => (q k).mp hk⟩⟩
  · rw [if_pos (by simpa using c)]
    refine wpAny_bind (wpAny_pure ?_)
    refine wpAny_pure ⟨_, rfl, (by intro z; cases z), h false ⟨fun q => (nomatch q), fun q => absurd (ddS_perm q) c⟩⟩
end
end PF

set_option Elab.async false
set_option linter.all false
set_option maxRecDepth 100000
set_option maxHeartbeats 3200000
namespace PF
open PySem PySem.Spec PyProof.Rows L2 SlX
/-- texts in a list or a tuple -/
def TxS (K : PySem.W.Frag) (H : Hp) (x : V) (xs : List Str) : Prop := ∃ l, x = .ref l ∧ (SqL K H l (xs.map V.str) ∨ SqT K H l (xs.map V.str)) ∧ xs.length + 1 < scanBound
def tEqSets (K : PySem.W.Frag) (ta tb : TE) : TE := fun σ H Q => ta σ H fun x H1 => ∃ xs, TxS K H1 x xs ∧ tb σ H1 fun y H2 => ∃ ys, TxS K H2 y ys ∧ ∀ r : Bool, (r = true ↔ ∀ k, k ∈ xs ↔ k ∈ ys) → Q (.bl r) H2
section
variable {X : Cx} {a : Expr} {ta : TE} {p q : Pos} {pins : List (Addr × Obj)} {σ : L2.St} {H : Hp} {s : Shared}
theorem mk_set {R : Value → Shared → Prop} {W : V → Hp → Prop} (hc : X.calm = true) (hg : Gl X "set") (hm : X.mg "set" = none) (ha : PE X a ta) (na : starEach [a] X.env = (false, eval a X.env) :: starEach [] X.env) (I : Inv X pins σ H s)
    (h : ta σ H W) (hW : ∀ x H1, W x H1 → ∃ xs, TxS X.K H1 x xs ∧ ∀ s1 D o, Inv X ((D, o) :: pins) σ H1 s1 → Inv X pins σ H1 s1 → SetS X.prog X.w s1.heap D xs → s1.heap.get? D = some o → R (.ref D) s1) :
    wpAny (model X.prog X.w) X.A (eval (.Call (.Name "set" p) [a] [] q) X.env) R X.xe s := by
  refine Call_ (ld_blt I hg hm boot_set ?_)
  refine PyProof.Rows.callWith_type1 (PyProof.Rows.args_cons (thn (ha.run pins s σ H _ I h) fun v s1 ⟨x, H1, I1, r1, q1⟩ => PyProof.Rows.args_nil ?_) na) na rfl
  obtain ⟨xs, ⟨l, rfl, hq, hb⟩, k⟩ := hW _ _ q1
  cases r1
  have fin : ∀ (h' : Heap) (tk : Nat), SetS X.prog X.w h' s1.heap.objs.size xs → (∀ b o, s1.heap.get? b = some o → h'.get? b = some o) → R (.ref s1.heap.objs.size) { s1 with heap := h', toks := tk } := fun h' tk z hk => by
    have I2 : Inv X pins σ H1 { s1 with heap := h', toks := tk } := I1.kept hk
    obtain ⟨o, es, ep, t, ho, hx, hd, hr⟩ := id z
    refine k _ _ o (I2.pins_of fun r hr2 => ?_) I2 z ho
    rcases List.mem_cons.mp hr2 with e | e
    · subst e
      exact ⟨ho, I1.hok.fresh (Nat.le_refl _), Nat.ne_of_gt I1.lt, I1.nofs (Nat.le_refl _), fun v y => by rw [hd] at y; cases y⟩
    · exact I2.pin r (List.mem_append.mpr (.inr e))
  rcases hq with hq | hq
  · obtain ⟨its, r, pl, hz⟩ := I1.list hq
    exact set_of_listS (I1.ok.hd hc) pl.isList (by simpa using strsAre_of r) hb fin
  · obtain ⟨its, r, pl, hz⟩ := I1.tuple hq
    exact set_of_tupleS (I1.ok.hd hc) pl (by simpa using strsAre_of r) hb fin
theorem pc_eqSets {b : Expr} {tb : TE} {p2 q2 : Pos} (hu : X.A.units < cLine) (hc : X.calm = true) (hg : Gl X "set") (hm : X.mg "set" = none) (ha : PE X a ta) (hb : PE X b tb)
    (na : starEach [a] X.env = (false, eval a X.env) :: starEach [] X.env := by rfl) (nb : starEach [b] X.env = (false, eval b X.env) :: starEach [] X.env := by rfl) :
    PC X .Eq (.Call (.Name "set" p) [a] [] q) (.Call (.Name "set" p2) [b] [] q2) (tEqSets X.K ta tb) := by
  refine ⟨fun pins s σ H Q I h => ?_⟩
  refine mk_set hc hg hm ha na I h fun x H1 ⟨xs, hx, k⟩ => ⟨xs, hx, fun s1 D o I1 _ z1 ho => ?_⟩
  refine mk_set hc hg hm hb nb I1 k fun y H2 ⟨ys, hy, k2⟩ => ⟨ys, hy, fun s2 D2 o2 I2 _ z2 ho2 => ?_⟩
  have hD : s2.heap.get? D = some o := (I2.pin (D, o) (List.mem_append.mpr (.inr (List.mem_cons_of_mem _ (List.mem_cons_self ..))))).1
  have z1' : SetS X.prog X.w s2.heap D xs := z1.at fun o' e => by
    rw [ho] at e
    cases e
    exact hD
  refine eq_texts z1' z2 hu fun r hr => ⟨.bl r, H2, I2.pins_of fun r2 hr2 => I2.pin r2 (List.mem_append.mpr (.inr (List.mem_cons_of_mem _ (List.mem_cons_of_mem _ hr2)))), rfl, k2 r hr⟩
end
def setEqB (xs ys : List Str) : Bool := xs.all (fun k => decide (k ∈ ys)) && ys.all fun k => decide (k ∈ xs)
theorem setEqB_iff {xs ys : List Str} : setEqB xs ys = true ↔ ∀ k, k ∈ xs ↔ k ∈ ys := by
  unfold setEqB
  rw [Bool.and_eq_true, List.all_eq_true, List.all_eq_true]
  exact ⟨fun ⟨h1, h2⟩ k => ⟨fun q => of_decide_eq_true (h1 k q), fun q => of_decide_eq_true (h2 k q)⟩, fun h => ⟨fun k q => decide_eq_true ((h k).mp q), fun k q => decide_eq_true ((h k).mpr q)⟩⟩
section
variable {Γ : Type} {μ : Md} {E : EV Γ} {K : PySem.W.Frag}
theorem txs_ls {F H : Hp} {v : V} {xs : List Str} (s : Same F H) (r : (rLs rStr).r F v xs) (l : xs.length ≤ 1000) : TxS K H v xs := by
  obtain ⟨p, ev, h⟩ := str_ls (K := K) s r
  exact ⟨p, ev, .inl h, by unfold scanBound; omega⟩
theorem txs_tup {F H : Hp} {v : V} {xs : List Str} (s : Same F H) (r : (rTup K rStr).r F v xs) (l : xs.length ≤ 1000) : TxS K H v xs := by
  obtain ⟨p, ev, h⟩ := str_tup s r
  exact ⟨p, ev, .inr h, by unfold scanBound; omega⟩
theorem e_eqSets {R1 R2 : Rp (List Str)} {ta tb : TE} {ma mb : Γ → M (List Str)} (h1 : ∀ {F H : Hp} {v : V} {xs : List Str}, Same F H → R1.r F v xs → xs.length ≤ 1000 → TxS K H v xs) (h2 : ∀ {F H : Hp} {v : V} {xs : List Str}, Same F H → R2.r F v xs → xs.length ≤ 1000 → TxS K H v xs)
    (ha : SE μ E R1 ta ma) (hb : SE μ E R2 tb mb) : SE μ E rBl (tEqSets K ta tb) fun ρ => (ma ρ).bind fun xs => .need (xs.length ≤ 1000) ((mb ρ).bind fun ys => .need (ys.length ≤ 1000) (.ret (setEqB xs ys))) := fun k F H σ ρ c Q w e h =>
  ha k F H σ ρ c _ w e (wp_imp h fun xs c1 ⟨l1, q⟩ v F1 H1 x1 w1 r1 => ⟨xs, h1 w1.sub r1 l1, hb k F1 H1 σ ρ c1 _ w1 (e.step x1) (wp_imp q fun ys c2 ⟨l2, q⟩ u F2 H2 x2 w2 r2 => ⟨ys, h2 w2.sub r2 l2, fun r hr => by
    refine q _ F2 H2 (x1.trans x2) w2 ?_
    show V.bl r = V.bl (setEqB xs ys)
    rw [show r = setEqB xs ys from Bool.eq_iff_iff.mpr (hr.trans setEqB_iff.symm)]⟩)⟩)
end
end PF

set_option Elab.async false
set_option linter.all false
set_option maxRecDepth 100000
set_option maxHeartbeats 1000000
namespace PF
open PySem PySem.Spec PyProof.Rows L2 SlX
section
variable {Γ α β γ : Type} {μ : Md} {E : EV Γ} {K : PySem.W.Frag} {Ra : Rp α}
/-! ### methods of texts -/
theorem n_split {to te : TE} {mo me : Γ → M Str} (ho : SE μ E rStr to mo) (he : SE μ E rStr te me) :
    SN μ E rStr (tM1 (fun x xs H Q => ∃ a b, x = .str a ∧ xs = [.str b] ∧ (b.length == 0) = false ∧ a.length + 2 ≤ sizeLine ∧ rNewStrs (Txt.split a b) H Q) to te) fun ρ => (mo ρ).bind fun a => (me ρ).bind fun b => .need ((b.length == 0) = false ∧ a.length + 2 ≤ sizeLine) (.ret (Txt.split a b)) := fun k F H σ ρ c Q w e h =>
  ho k F H σ ρ c _ w e (wp_imp h fun a c1 q v F1 H1 x1 w1 r1 => ⟨⟨a, r1⟩, he k F1 H1 σ ρ c1 _ w1 (e.step x1) (wp_imp q fun b c2 ⟨⟨q1, q2⟩, q⟩ u F2 H2 x2 w2 r2 => ⟨a, b, r1, by rw [r2], q1, q2, fun p n => VN.newL w2 (VN.ext (x1.trans x2) q) n (All2.of_map (β := Unit) V.str (fun _ => rfl) _)⟩)⟩)
theorem e_join {Rl : Rp (List Str)} {to te : TE} {mo : Γ → M Str} {me : Γ → M (List Str)} (hl : ∀ {F H : Hp} {v : V} {ys : List Str}, Same F H → Rl.r F v ys → ∃ p, v = .ref p ∧ (SqL K H p (ys.map V.str) ∨ SqT K H p (ys.map V.str))) (ho : SE μ E rStr to mo) (he : SE μ E Rl te me) :
    SE μ E rStr (tM1 (fun x xs H Q => ∃ a p, ∃ ys : List Str, x = .str a ∧ xs = [.ref p] ∧ (SqL K H p (ys.map V.str) ∨ SqT K H p (ys.map V.str)) ∧ (ys.map (·.length)).sum + ys.length * a.length ≤ 16777216 ∧ Q (.str (Txt.join a ys)) H) to te)
      fun ρ => (mo ρ).bind fun a => (me ρ).bind fun ys => .need ((ys.map (·.length)).sum + ys.length * a.length ≤ 16777216) (.ret (Txt.join a ys)) := fun k F H σ ρ c Q w e h =>
  ho k F H σ ρ c _ w e (wp_imp h fun a c1 q v F1 H1 x1 w1 r1 => ⟨⟨a, r1⟩, he k F1 H1 σ ρ c1 _ w1 (e.step x1) (wp_imp q fun ys c2 ⟨q1, q⟩ u F2 H2 x2 w2 r2 => by
    obtain ⟨p, ev, hp⟩ := hl w2.sub r2
    exact ⟨a, p, ys, r1, by rw [ev], hp, q1, q _ F2 H2 (x1.trans x2) w2 rfl⟩)⟩)
theorem jn_ls {F H : Hp} {v : V} {ys : List Str} (s : Same F H) (r : (rLs rStr).r F v ys) : ∃ p, v = .ref p ∧ (SqL K H p (ys.map V.str) ∨ SqT K H p (ys.map V.str)) := by
  obtain ⟨p, ev, h⟩ := str_ls (K := K) s r
  exact ⟨p, ev, .inl h⟩
theorem jn_tup {F H : Hp} {v : V} {ys : List Str} (s : Same F H) (r : (rTup K rStr).r F v ys) : ∃ p, v = .ref p ∧ (SqL K H p (ys.map V.str) ∨ SqT K H p (ys.map V.str)) := by
  obtain ⟨p, ev, h⟩ := str_tup s r
  exact ⟨p, ev, .inr h⟩
/-- a in b, texts -/
def inStr (a b : Str) : Bool := !(Builtin.Str.occurrences b a 0 b.length 1).isEmpty
theorem o_inStr : OpS μ (fun x y H Q => ∃ i j, x = .str i ∧ y = .str j ∧ Q (.bl (!(Builtin.Str.occurrences j i 0 j.length 1).isEmpty)) H) rStr rStr rBl fun a b => .ret (inStr a b) := fun k F H c x y a b Q w hx hy q => ⟨a, b, hx, hy, VP.now w q rfl⟩
/-! ### isinstance whose answer is known -/
structure TyR (K : PySem.W.Frag) (R : Rp α) (t : Value) : Prop where
  ty : ∀ {F H : Hp} {v : V} {a : α}, Same F H → R.r F v a → TyY K H v t
theorem tr_str : TyR K rStr (.type "str") := ⟨fun _ h => by subst h; exact .x (.base (.str _))⟩
theorem tr_int : TyR K rInt (.type "int") := ⟨fun _ h => by subst h; exact .x (.base (.int _))⟩
theorem tr_bl : TyR K rBl (.type "bool") := ⟨fun _ h => by subst h; exact .x (.base (.bl _))⟩
theorem tr_tup : TyR K (rTup K Ra) (.type "tuple") := ⟨fun s ⟨p, vs, e, h, _⟩ => by
  subst e
  rcases same_seqT s h with (h | ⟨o, h⟩) | ⟨o, its, n, h, c, _⟩
  · exact .x (.base (.tup h))
  · exact .x (.fTuple h)
  · exact .x (.kTuple h c)⟩
theorem tr_ls : TyR K (rLs Ra) (.type "list") := ⟨fun s ⟨p, vs, e, h, _⟩ => by subst e; exact .x (.base (.lst (s _ _ h)))⟩
theorem c_isi {t u : Value} {c : V} {b : Bool} (ht : TyR K Ra t) (hc : ClsV c u) (hk : PySem.W.kitOne K t u = some b) {Rc : Rp Unit} (hr : ∀ {F : Hp} {v : V}, Rc.r F v () → v = c) : CaS μ (rIsiU K) (a2 Ra Rc) rBl fun _ => .ret b := fun k F H n vs a Q w r q => by
  obtain ⟨v, x, e, r1, r2⟩ := two r
  exact ⟨v, c, t, u, b, by rw [e, hr r2], hc, ht.ty w.sub r1, hk, VP.now w q rfl⟩
end
end PF

set_option Elab.async false
set_option linter.all false
set_option maxRecDepth 100000
set_option maxHeartbeats 1000000
namespace PF
open PySem PySem.Spec PyProof.Rows L2 SlX
/-! ### list.remove of texts -/
def eqx (z : Str) : Value → Bool
  | .str y _ => y == z
  | _ => false
def rRemS : V → List V → Hp → VK → Prop := fun x xs H Q => ∃ (l : Addr) (ys : List Str) (z : Str), x = .ref l ∧ xs = [.str z] ∧ H l = some (.lst (ys.map V.str)) ∧ z ∈ ys ∧ Q .non (upd H l (.lst ((ys.erase z).map V.str)))
theorem eraseM {α β : Type} (f : α → β) : ∀ (l : List α) (j : Nat), (l.map f).eraseIdx j = (l.eraseIdx j).map f
  | [], j => by simp
  | a :: r, 0 => rfl
  | a :: r, j + 1 => by
    have ih := eraseM f r j
    simp [ih]
section
variable {X : Cx}
theorem mt_remS : MtM X "list.remove" rRemS := by
  intro pins s σ H x xs v us Q I rx rxs h
  obtain ⟨l, ys, z, rfl, rfl, hH, hz, q⟩ := h
  cases rx
  obtain ⟨u, rfl, ru⟩ := rxs.one
  obtain ⟨t, rfl⟩ := ru
  obtain ⟨lz, its, n, r, hl, e⟩ := I.lstM hH
  rw [List.length_map] at hl lz
  have txs : ∀ (i : Nat) (h : i < its.length), ∃ y t, ys[i]? = some y ∧ its[i] = .str y t := fun i hi => by
    have hy : i < ys.length := by omega
    obtain ⟨u, hu, t', eu⟩ := r.get (show (ys.map V.str)[i]? = some (.str ys[i]) by rw [List.getElem?_map, List.getElem?_eq_getElem hy]; rfl)
    exact ⟨_, t', List.getElem?_eq_getElem hy, by rw [List.getElem?_eq_getElem hi] at hu; rw [Option.some.inj hu, eu]⟩
  have hj : ys.idxOf z < ys.length := List.idxOf_lt_length_iff.mpr hz
  refine call_meets PySem.F.slot_list_remove ⟨_, e, rfl⟩ PySem.F.entry_list_remove (PySem.F.args_list_remove_2 _ _)
    (MeetsSeq.list_remove l its.toArray n (.str z t) (eqx z) (fun y hy => ?_) (ys.idxOf z) (by rw [List.size_toArray]; omega) ?_ (fun m hm hmj => ?_) (by rw [List.size_toArray]; omega)) ⟨e, ?_⟩
  · obtain ⟨i, hi, ei⟩ := List.getElem_of_mem (show y ∈ its by simpa using hy)
    obtain ⟨y', t', _, e2⟩ := txs i hi
    rw [← ei, e2]
    have q1 := SeqRoads2.EqGives.str y' z t' t
    rw [SeqAt.str_beq] at q1
    exact q1
  · obtain ⟨y', t', e1, e2⟩ := txs (ys.idxOf z) (by omega)
    show eqx z its.toArray[ys.idxOf z] = true
    rw [List.getElem_toArray, e2]
    have : ys[ys.idxOf z]? = some z := by rw [List.getElem?_eq_getElem hj, List.getElem_idxOf]
    rw [this] at e1
    cases e1
    exact beq_self_eq_true _
  · obtain ⟨y', t', e1, e2⟩ := txs m (by simpa using hm)
    show eqx z its.toArray[m] = false
    rw [List.getElem_toArray, e2]
    refine beq_eq_false_iff_ne.mpr fun e3 => ?_
    subst e3
    have h1 : m < ys.length := by omega
    have h2 : ys[m] = y' := by rw [List.getElem?_eq_getElem h1] at e1; exact Option.some.inj e1
    have h3 := List.not_of_lt_findIdx (show m < ys.findIdx (· == y') from hmj)
    rw [h2] at h3
    simp at h3
  · refine ⟨.non, _, I.lset (its' := its.eraseIdx (ys.idxOf z)) (t' := s.toks) hH e ?_ ?_ ?_, rfl, q⟩
    · show its.toArray.eraseIdxIfInBounds (ys.idxOf z) = (its.eraseIdx (ys.idxOf z)).toArray
      rw [List.eraseIdxIfInBounds_toArray]
    · have rr := r.eraseIdx (ys.idxOf z)
      rw [eraseM, ← List.erase_eq_eraseIdx_of_idxOf rfl] at rr
      exact rr
    · rw [List.length_map]
      exact Nat.le_trans List.length_erase_le (by omega)
end
section
variable {Γ Γ' Δ α β γ : Type} {μ : Md} {E : EV Γ} {El : EV Δ} {R : Rp γ} {K : PySem.W.Frag}
theorem all2S {F : Hp} {vs : List V} {xs : List Str} (h : All2 (rStr.r F) vs xs) : vs = xs.map V.str := h.to_map V.str fun _ _ z => z
/-- xs.remove(e), texts -/
theorem s_removeS {i : Nat} {g : Γ → List Str} {put : Γ → List Str → Γ} {te : TE} {m : Γ → M Str} (hm : ModS E i rStr g put) (he : SE μ E rStr te m) :
    SS μ E E El R (tDrop (tBM K "list" rRemS (tVar i) (tCons te tNil))) fun ρ => (m ρ).bind fun a => .need (a ∈ g ρ) (.ret (.nx (put ρ ((g ρ).erase a)))) := fun k F H σ ρ c D w e h => by
  obtain ⟨p, vs, h1, h2, h3, h4⟩ := hm.get e.r
  obtain ⟨_, f0, n0, np⟩ := E.has e.r h4
  refine ⟨.ref p, h1, tyL h2, he k F H σ ρ c _ w e (wp_imp h fun a c1 ⟨q1, q⟩ v F1 H1 x1 w1 r1 => ?_)⟩
  have hp1 := x1.hp p _ np h2
  have f1 : F1 p = none := (x1.old p (some_ne h2)).trans f0
  rw [all2S h3] at hp1
  refine ⟨p, g ρ, a, rfl, by rw [r1], hp1, q1, q F1 _ σ x1.fz (w1.mod n0 f1) ⟨hm.mod (E.step x1 e.r) e.nd h1 (All2.of_map (β := Unit) V.str (fun _ => rfl) _), e.nd⟩⟩
/-- xs.insert(i, e) -/
theorem s_insert {i : Nat} {Ra : Rp α} {g : Γ → List α} {put : Γ → List α → Γ} {te ti : TE} {m : Γ → M α} {mi : Γ → M Int} (hm : ModS E i Ra g put) (hi : SE μ E rInt ti mi) (he : SE μ E Ra te m) :
    SS μ E E El R (tDrop (tBM K "list" (fun x vs H Q => ∃ (l : Addr) (xs : List V) (i : Int) (y : V), x = .ref l ∧ vs = [.int i, y] ∧ H l = some (.lst xs) ∧ xs.length < sizeLine ∧ 0 ≤ i ∧ i < 2 ^ 63 ∧ Q .non (upd H l (.lst (xs.take i.toNat ++ [y] ++ xs.drop i.toNat)))) (tVar i) (tCons ti (tCons te tNil))))
      fun ρ => (mi ρ).bind fun j => (m ρ).bind fun a => .need ((g ρ).length < sizeLine ∧ 0 ≤ j ∧ j < 2 ^ 62) (.ret (.nx (put ρ ((g ρ).take j.toNat ++ [a] ++ (g ρ).drop j.toNat)))) := fun k F H σ ρ c D w e h => by
  obtain ⟨p, vs, h1, h2, h3, h4⟩ := hm.get e.r
  obtain ⟨_, f0, n0, np⟩ := E.has e.r h4
  refine ⟨.ref p, h1, tyL h2, hi k F H σ ρ c _ w e (wp_imp h fun j c1 q v F1 H1 x1 w1 r1 => ?_)⟩
  refine he k F1 H1 σ ρ c1 _ w1 (e.step x1) (wp_imp q fun a c2 ⟨⟨q1, q2, q3⟩, q⟩ u F2 H2 x2 w2 r2 => ?_)
  have x12 := x1.trans x2
  have hp2 := x12.hp p _ np h2
  have f2 : F2 p = none := (x12.old p (some_ne h2)).trans f0
  have al := h3.imp fun _ _ g => Ra.st x12.fz g
  exact ⟨p, vs, j, u, rfl, by rw [r1], hp2, by rw [h3.len]; exact q1, q2, by omega, q F2 _ σ x12.fz (w2.mod n0 f2) ⟨hm.mod (E.step x12 e.r) e.nd h1 (((al.take _).snoc r2).append (al.drop _)), e.nd⟩⟩
end
end PF

set_option Elab.async false
set_option linter.all false
set_option maxRecDepth 100000
set_option maxHeartbeats 1000000
namespace PF
open PySem PySem.Spec PyProof.Rows L2 SlX
/-! ### str(x) by an own __str__ -/
section
variable {prog : Program} {w : World} {A : Around} {E : Value → Shared → Prop} {s : Shared} {K : PySem.W.Frag} {x C D f : Addr} {ox od : Obj} {odd : Option Obj}
theorem str_own {Q : Value → Shared → Prop} (hu : A.in1.in1.units + 1 < cLine) (X : K.In s.heap) (I : PySem.W.InstAt s.heap x ox C odd) (hs : PySem.W.findIn K (.ref C) "__str__" = some (some (.ref f))) (hf : PySem.W.isFn K (.ref f) = true)
    (h : wpAny (model prog w) A.in1.in1 (call (.ref f) [.ref x]) (fun r s₁ => ∃ n u, r = Value.str n u ∧ Q r s₁) E s) : wpAny (model prog w) A (call (.type "str") [.ref x]) Q E s := by
  refine callType_codes (T := "str") (Bi := Builtin.«object.__init__») (Q₁ := fun r s₁ => ∃ n u, r = Value.str n u ∧ Q r s₁) PySem.F.called_str (PySem.F.typeCall_str_1 _) PySem.F.entry_object_init ?_ ?_
  · refine codeAny_of_tree ?_
    show wpAny _ A.in1.in1 (do checkBuiltinCall "str.__new__" ⟨[.type "str", .ref x], []⟩; again (.builtin "str.__new__" ⟨[.type "str", .ref x], []⟩)) _ _ s
    refine wpAny_bind (wpAny_of_eq (PySem.F.newCall_str_1 _) (wpAny_pure ⟨plainId_quiet (by decide +kernel) _, codeAny_builtin PySem.F.entry_str_new ?_⟩))
    rw [Around.under_plainId (by decide +kernel) _]
    rw [str_new_tree]
    refine wpAny_bind (wpAny_pure ?_)
    refine wpAny_bind (wpAny_of_eq isSubtype_str_str ?_)
    have so : wpAny (model prog w) A.in1.in1 (Builtin.Str.strOf (.ref x)) (fun r s₁ => ∃ n u, r = Value.str n u ∧ Q r s₁) E s := by
      unfold Builtin.Str.strOf
      refine wpAny_bind (wpAny_cRoomFor (by omega) ?_)
      refine wpAny_bind (m := callSpecial? (.ref x) (Str.ofString "__str__")) (PySem.W.special_fn X I hs (beq_iff_eq.mp hf) (wpAny_mono h (fun r s' hr => ?_) fun _ _ y => y))
      obtain ⟨n, u, rfl, hq⟩ := hr
      exact wpAny_pure ⟨n, u, rfl, hq⟩
    refine wpAny_bind (wpAny_mono so (fun r s₁ hr => ?_) fun _ _ y => y)
    obtain ⟨n, u, rfl, hq⟩ := hr
    exact wpAny_pure ⟨n, u, rfl, hq⟩
  · rintro obj s₁ ⟨n, u, rfl, hq⟩
    exact ⟨typeIs_str _ _ _, PySem.F.args_object_init_2 _ _, object_init_meets PySem.F.called_str.init.lookup PySem.F.called_str.made (by decide) prog w A.in1 _ s₁ ⟨typeIs_str _ _ _, rfl, hq⟩⟩
end
/-- str(x), x an instance with slots -/
def rStrOwn (C : Addr) (sp : Sp) : List V → Hp → VK → Prop := fun xs H Q => ∃ a dx vs, xs = [V.ref a] ∧ Slt H a C dx vs ∧ sp [.ref a] H (fun z H' => ∃ i, z = .str i ∧ Q z H') E0
structure GS (P : Program) (w : World) (K : PySem.W.Frag) (mg : Str → Option Value) (base : Heap) (C : Addr) (k : Nat) (sp : Sp) : Prop where
  ex : ∃ g, PySem.W.findIn K (.ref C) "__str__" = some (some (.ref g)) ∧ PySem.W.isFn K (.ref g) = true ∧ FnR P w K mg base CX0 k g sp
theorem call_strN {X : Cx} {C : Addr} {n : Nat} {sp : Sp} (G : GS X.prog X.w X.K X.mg X.base C n sp) (hr : Room (n + 2) X.A) : CallR X (.type "str") (rStrOwn C sp) := by
  obtain ⟨g, hs, hf, F⟩ := G.ex
  intro pins s σ H xs us Q I r h
  obtain ⟨a, dx, vs, rfl, hsl, q⟩ := h
  obtain ⟨u, rfl, ru⟩ := r.one
  cases (show u = Value.ref a from ru)
  obtain ⟨sl, od, _, J, _⟩ := slt_inst I hsl
  have hr2 : Room n X.A.in1.in1 := (show Room (n + 1) X.A.in1 from Room.in1 hr).in1
  refine str_own (hu_of hr2) I.kIn J hs hf (wpAny_mono (wpAny_call (run_at (us := [.ref a]) (ws := [.ref a]) F hr2 I.env0.in1.in1 pass0 I (.cons rfl .nil) q)) (fun w s' z => ?_) fun _ _ x => x)
  obtain ⟨z', H', I', rz, i, ei, qz⟩ := z
  subst ei
  obtain ⟨t, e⟩ := (show ∃ t, w = Value.str i t from rz)
  cases e
  exact ⟨i, t, rfl, .str i, H', I', ⟨t, rfl⟩, qz⟩
end PF

set_option Elab.async false
set_option linter.all false
set_option maxRecDepth 100000
set_option maxHeartbeats 1000000
namespace PF
open PySem PySem.Spec PyProof.Rows L2 SlX
/-! ### len(o), v in o by own methods -/
structure GQ (P : Program) (w : World) (K : PySem.W.Frag) (mg : Str → Option Value) (base : Heap) (m : String) (C : Addr) (k : Nat) (sp : Sp) : Prop where
  ex : ∃ g, PySem.W.findIn K (.ref C) m = some (some (.ref g)) ∧ PySem.W.isFn K (.ref g) = true ∧ FnR P w K mg base CX0 k g sp
def rLenOwn (C : Addr) (sp : Sp) : List V → Hp → VK → Prop := fun xs H Q => ∃ a dx vs, xs = [V.ref a] ∧ Slt H a C dx vs ∧ sp [.ref a] H (fun z H' => ∃ i : Int, z = .int i ∧ 0 ≤ i ∧ i < 2 ^ 62 ∧ Q (.int i) H') E0
def rInOwn (C : Addr) (sp : Sp) : R2 := fun y x H Q => ∃ a dx vs, x = .ref a ∧ Slt H a C dx vs ∧ sp [.ref a, y] H (fun z H' => ∃ b : Bool, z = .bl b ∧ Q (.bl b) H') E0
def rNotInOwn (C : Addr) (sp : Sp) : R2 := fun y x H Q => ∃ a dx vs, x = .ref a ∧ Slt H a C dx vs ∧ sp [.ref a, y] H (fun z H' => ∃ b : Bool, z = .bl b ∧ Q (.bl (!b)) H') E0
section
variable {X : Cx} {C : Addr} {n : Nat} {sp : Sp}
theorem call_lenN (G : GQ X.prog X.w X.K X.mg X.base "__len__" C n sp) (hr : Room (n + 1) X.A) : CallR X (.builtin "len") (rLenOwn C sp) := by
  obtain ⟨g, hs, hf, F⟩ := G.ex
  intro pins s σ H xs us Q I r h
  obtain ⟨a, dx, vs, rfl, hsl, q⟩ := h
  obtain ⟨u, rfl, ru⟩ := r.one
  cases (show u = Value.ref a from ru)
  obtain ⟨sl, od, _, J, _⟩ := slt_inst I hsl
  obtain ⟨m, fr⟩ := I.fr
  have hr2 : Room n X.A.in1 := Room.in1 hr
  refine PySem.W.len_K fr I.ok.mod.kin J hs hf (wpAny_mono (wpAny_call (run_at (us := [.ref a]) (ws := [.ref a]) F hr2 I.env0.in1 pass0 I (.cons rfl .nil) q)) (fun w s' z => ?_) fun _ _ x => x)
  obtain ⟨z', H', I', rz, i, ei, i0, i1, qz⟩ := z
  subst ei
  obtain ⟨t, e⟩ := (show ∃ t, w = Value.int i t from rz)
  cases e
  exact ⟨⟨i0, by omega⟩, .int i, H', I'.tok _, ⟨_, rfl⟩, qz⟩
theorem op_inN (G : GQ X.prog X.w X.K X.mg X.base "__contains__" C n sp) (hr : Room n X.A) : OpR X (compareOp .In) (rInOwn C sp) := by
  obtain ⟨g, hs, hf, F⟩ := G.ex
  intro pins s σ H y x v u Q I ry rx h
  obtain ⟨a, dx, vs, rfl, hsl, q⟩ := h
  cases (show u = Value.ref a from rx)
  obtain ⟨sl, od, _, J, _⟩ := slt_inst I hsl
  obtain ⟨m, fr⟩ := I.fr
  refine PySem.W.in_K fr I.ok.mod.kin J hs hf (wpAny_mono (wpAny_call (run_at (us := [.ref a, v]) (ws := [.ref a, y]) F hr I.env0 pass0 I (.cons rfl (.cons ry .nil)) q)) (fun w s' z => ?_) fun _ _ x => x)
  obtain ⟨z', H', I', rz, b, ei, qz⟩ := z
  subst ei
  cases (show w = Value.bool b from rz)
  exact wpAny_truthy_bool ⟨.bl b, H', I', rfl, qz⟩
theorem op_notInN (G : GQ X.prog X.w X.K X.mg X.base "__contains__" C n sp) (hr : Room n X.A) : OpR X (compareOp .NotIn) (rNotInOwn C sp) := by
  obtain ⟨g, hs, hf, F⟩ := G.ex
  intro pins s σ H y x v u Q I ry rx h
  obtain ⟨a, dx, vs, rfl, hsl, q⟩ := h
  cases (show u = Value.ref a from rx)
  obtain ⟨sl, od, _, J, _⟩ := slt_inst I hsl
  obtain ⟨m, fr⟩ := I.fr
  refine PySem.W.notIn_K fr I.ok.mod.kin J hs hf (wpAny_mono (wpAny_call (run_at (us := [.ref a, v]) (ws := [.ref a, y]) F hr I.env0 pass0 I (.cons rfl (.cons ry .nil)) q)) (fun w s' z => ?_) fun _ _ x => x)
  obtain ⟨z', H', I', rz, b, ei, qz⟩ := z
  subst ei
  cases (show w = Value.bool b from rz)
  exact wpAny_truthy_bool ⟨.bl (!b), H', I', rfl, qz⟩
end
theorem slt_same {F H : Hp} {p C dx : Addr} {vs : List (Option V)} (s : Same F H) (h : Slt F p C dx vs) : Slt H p C dx vs := by
  rcases h with ⟨h, e⟩ | ⟨h, h2⟩
  · exact .inl ⟨s _ _ h, e⟩
  · exact .inr ⟨s _ _ h, s _ _ h2⟩
/-- the values of R are instances of C with slots -/
structure SlR1 {α : Type} (R : Rp α) (C : Addr) : Prop where
  at_ : ∀ {F : Hp} {v : V} {a : α}, R.r F v a → ∃ p dx vs, v = .ref p ∧ Slt F p C dx vs
section
variable {Γ α β : Type} {E : EV Γ} {C : Addr} {Ro : Rp α} {Rb : Rp β}
theorem e_lenN {te : TE} {mo : Γ → M α} {m : α × Unit → M Int} (hs : SlR1 Ro C) (h : SE md0 E Ro te mo) : SE md0 E rInt (tCB (rLenOwn C (spOf (a1 Ro) rInt m)) (tCons te tNil)) fun ρ => (mo ρ).bind fun a => ((m (a, ())).still).bind fun i => .need (0 ≤ i ∧ i < 2 ^ 62) (.ret i) := fun k F H σ ρ c Q w e q =>
  h k F H σ ρ c _ w e (wp_imp q fun a c1 q v F1 H1 x1 w1 r1 => by
    obtain ⟨p, dx, vs, ev, sl⟩ := hs.at_ r1
    refine ⟨p, dx, vs, by rw [ev], slt_same w1.sub sl, F1, (a, ()), w1.sub, ⟨v, [], by rw [ev], r1, rfl⟩, (m (a, ())).mono 0 (fun b _ z u F' H' x r => ?_) (fun _ z => XP.no w1 z) q⟩
    obtain ⟨⟨i0, i1⟩, z⟩ := z
    have r' : u = .int b := r
    subst r'
    exact ⟨b, rfl, i0, i1, z _ F' H' (x1.trans (w1.call x).1) (w1.call x).2 rfl⟩)
end
end PF

set_option Elab.async false
set_option linter.all false
set_option maxRecDepth 100000
set_option maxHeartbeats 1000000
namespace PF
open PySem PySem.Spec PyProof.Rows L2 SlX
/-! ### sorted of a tuple of texts -/
section
variable {prog : Program} {w : World} {A : Around} {E : Value → Shared → Prop} {s : Shared}
theorem collect_tup {l : Addr} {vs : List Value} {Q : List Value → Shared → Prop} (hl : IsTup s.heap l vs.toArray)
    (h : Q vs { s with heap := (s.heap.push (seqObj "list" #[] 0)).update s.heap.objs.size (Obj.mapSeq (· ++ vs.toArray)) }) (hsz : vs.length ≤ sizeLine) :
    wpAny (model prog w) A (collect (.ref l)) Q E s := by
  obtain ⟨o, ho, hc, n, hd⟩ := id hl
  unfold collect
  refine wpAny_bind (wpAny_runValue (codeAny_builtin entry_proto_collect' ?_))
  show wpAny _ _ (do again (.builtin "list.__iadd__" ⟨[← newList [], .ref l], []⟩)) _ _ s
  refine wpAny_bind (wpAny_newList (wpAny_pure ⟨Code.quiet_builtin _ (by decide +kernel), codeAny_builtin entry_list_iadd' ?_⟩))
  show wpAny _ _ (Builtin.List.listExtendWith (.ref s.heap.objs.size) (.ref l) (.ref s.heap.objs.size)) _ _ { s with heap := s.heap.push (seqObj "list" #[] 0) }
  unfold Builtin.List.listExtendWith
  have ho' : (s.heap.push (seqObj "list" #[] 0)).get? l = some o := Heap.get?_push_of_some _ ho
  refine wpAny_bind (wpAny_typeOf (T := "tuple") ⟨o, ho', hc⟩ ?_)
  have ht : (Value.type "tuple" == Value.type "tuple") = true := by rfl
  rw [if_pos (by rw [ht]; simp)]
  refine wpAny_bind (listItems_at ho' hd ?_)
  refine wpAny_bind (listItems_at (xs := #[]) (n := 0) (Heap.get?_push_size _ rfl) rfl ?_)
  rw [if_neg (by simp)]
  refine wpAny_bind (listUpdate_at (xs := #[]) (n := 0) (Heap.get?_push_size _ rfl) rfl ?_ (Nat.zero_le _) (by show (#[] ++ vs.toArray).size ≤ sizeLine + 1; simp only [Array.size_append, List.size_toArray, List.length_nil]; omega))
  refine wpAny_pure ?_
  show wpAny (model prog w) A (do
      let o ← load s.heap.objs.size
      match o.data with
      | .seq xs _ => pure xs.toList
      | _ => unsupported "internal:collect") Q E { s with heap := (s.heap.push (seqObj "list" #[] 0)).update s.heap.objs.size (Obj.mapSeq (· ++ vs.toArray)) }
  refine wpAny_bind (wpAny_load (get?_update_seq (Heap.get?_push_size _ rfl) _) ?_)
  show wpAny _ _ (pure ((#[] : Array Value) ++ vs.toArray).toList) Q E _
  rw [show ((#[] : Array Value) ++ vs.toArray).toList = vs by simp]
  exact wpAny_pure h
theorem sortedT_K {κ : KeyKind} (hO : κ.OneLt) {l : Addr} {vs : List Value} {Q : Value → Shared → Prop} (hl : IsTup s.heap l vs.toArray) (h0 : KeysOf κ (pairsOf vs)) (hkk : ∀ v₁ v₂ rest, vs = v₁ :: v₂ :: rest → keyKind' (v₁ :: v₂ :: rest).toArray = pure oneType') (h64 : vs.length < 64)
    (h : ∀ st' : SortSt, (arrOf st').Perm (pairsOf vs) → SortedToK κ (arrOf st') (pairsOf vs).size → Q (.ref (s.heap.objs.size + 1)) { s with heap := sortedAll s.heap vs ((arrOf st').map (·.2)) }) :
    wpAny (model prog w) A (call (.builtin "sorted") [.ref l]) Q E s := by
  refine Calls.call_function_entry kind_sorted plain_sorted entry_sorted (args_sorted1 _) ?_
  unfold Builtin.«sorted»
  refine wpAny_bind (m := checkCount "sorted" 1 1 _) (wpAny_pure ?_)
  refine wpAny_bind (collect_tup hl ?_ (by rw [sizeLine_eq]; omega))
  refine wpAny_bind (wpAny_newList ?_)
  have hsz : ((s.heap.push (seqObj "list" #[] 0)).update s.heap.objs.size (Obj.mapSeq (· ++ vs.toArray))).objs.size = s.heap.objs.size + 1 := by
    rw [Heap.size_update, size_push']
  have hoL : (((s.heap.push (seqObj "list" #[] 0)).update s.heap.objs.size (Obj.mapSeq (· ++ vs.toArray))).push (seqObj "list" vs.toArray 0)).get? (s.heap.objs.size + 1) = some (seqObj "list" vs.toArray 0) := by
    rw [← hsz]; exact Heap.get?_push_size _ rfl
  show wpAny _ _ _ _ _ { s with heap := ((s.heap.push (seqObj "list" #[] 0)).update s.heap.objs.size (Obj.mapSeq (· ++ vs.toArray))).push (seqObj "list" vs.toArray 0) }
  rw [hsz]
  refine wpAny_bind (wpAny_holding (wpAny_call_entry slot_list_sort ⟨_, hoL, rfl⟩ entry_list_sort (list_sort_treeK hO hoL h0 hkk h64 fun st' a1 a2 => ⟨_, rfl, ?_⟩) (args_list_sort _)))
  exact wpAny_pure ⟨_, rfl, h st' a1 a2⟩
theorem fm_congr {α β : Type} {f g : α → Option β} : ∀ {l : List α}, (∀ x ∈ l, f x = g x) → l.filterMap f = l.filterMap g
  | [], _ => rfl
  | x :: l, h => by
    rw [List.filterMap_cons, List.filterMap_cons, h x (List.mem_cons_self ..), fm_congr fun y hy => h y (List.mem_cons_of_mem _ hy)]
theorem pick_rev (xs : Array Value) : ((List.range xs.size).filterMap fun (m : Nat) => xs[(((xs.size : Int) - 1) + (m : Int) * -1).toNat]?).toArray = xs.toList.reverse.toArray := by
  have z := HT.pick_gen xs.toList.reverse.toArray 0 xs.size
  have e : (xs.toList.reverse.toArray.toList.drop 0).take xs.size = xs.toList.reverse := by
    rw [List.drop_zero]
    show xs.toList.reverse.take xs.size = _
    exact List.take_of_length_le (by simp)
  rw [e] at z
  rw [← z]
  congr 1
  refine fm_congr fun m hm => ?_
  have hm' : m < xs.size := List.mem_range.mp hm
  rw [show (((xs.size : Int) - 1) + (m : Int) * -1).toNat = xs.size - 1 - m by omega, show (((0 : Nat) : Int) + (m : Int) * 1).toNat = m by omega]
  rw [show xs.toList.reverse.toArray[m]? = xs.toList.reverse[m]? from List.getElem?_toArray .., List.getElem?_reverse (by simpa using hm')]
  simp
theorem sliceApplied_rev {sl : Addr} {vl vu vs : Value} {n : Nat} {Q : Int × Int × Nat → Shared → Prop} (hs : s.heap.IsSliceOf sl vl vu vs) (pl : IsPart vl none) (pu : IsPart vu none) (ps : IsPart vs (some (-1)))
    (h : Q ((n : Int) - 1, -1, n) s) : wpAny (model prog w) A (Builtin.Slice.sliceApplied (.ref sl) (pure (n : Int))) Q E s := by
  obtain ⟨os, hos, hcs, hds⟩ := id hs
  unfold Builtin.Slice.sliceApplied Builtin.Slice.sliceFields
  refine wpAny_bind (wpAny_bind (wpAny_field hos hds (x := vl) rfl (wpAny_bind (wpAny_field hos hds (x := vu) rfl (wpAny_bind (wpAny_field hos hds (x := vs) rfl (wpAny_pure ?_)))))))
  refine wpAny_bind (HT.slicePart_ ps ?_)
  show wpAny _ _ (if ((-1 : Int) == 0) = true then _ else _) _ _ s
  rw [if_neg (by decide)]
  refine wpAny_bind (HT.slicePart_ pl (wpAny_bind (HT.slicePart_ pu (wpAny_bind (wpAny_pure ?_)))))
  have e1 : Builtin.Slice.sliceAdjust none none (-1) (n : Int) = ((n : Int) - 1, -1) := rfl
  have e2 : Builtin.Slice.slicePlaces ((n : Int) - 1) (-1) (-1) = n := by
    unfold Builtin.Slice.slicePlaces
    rw [if_neg (by decide)]
    by_cases z : (n : Int) - 1 > -1
    · rw [if_pos z, show (-(-1) : Int) = 1 by decide, Int.ediv_one]; omega
    · rw [if_neg z]; omega
  show wpAny _ _ (match Builtin.Slice.sliceAdjust none none (-1) (n : Int) with | (lo, hi) => pure (lo, (-1 : Int), Builtin.Slice.slicePlaces lo hi (-1))) _ _ s
  rw [e1]
  show wpAny _ _ (pure ((n : Int) - 1, (-1 : Int), Builtin.Slice.slicePlaces ((n : Int) - 1) (-1) (-1))) _ _ s
  rw [e2]
  exact wpAny_pure h
theorem getItem_tuple_rev {t sl : Addr} {items : Array Value} {vl vu vs : Value} {Q : Value → Shared → Prop} (ht : IsTup s.heap t items) (hs : s.heap.IsSliceOf sl vl vu vs) (pl : IsPart vl none) (pu : IsPart vu none) (ps : IsPart vs (some (-1)))
    (h : Q (.ref s.heap.objs.size) { s with heap := s.heap.push { cls := .type "tuple", data := .seq items.toList.reverse.toArray } })
    (hsz : items.size ≤ sizeLine) : wpAny (model prog w) A (getItem (.ref t) (.ref sl)) Q E s := by
  have htake : sizeOk (.seq items.toList.reverse.toArray) := by
    show items.toList.reverse.toArray.size ≤ sizeLine
    simpa using hsz
  obtain ⟨os, hos, hcs, hds⟩ := id hs
  have hTs : s.TypeIs (.ref sl) "slice" := ⟨os, hos, hcs⟩
  unfold getItem
  try with_reducible refine wpAny_holding ?_
  first | refine wpAny_bind (wpAny_pure ?_) | skip
  refine wpAny_bind (wpAny_sequenceKey ht.typeIs (by decide) ?_)
  refine wpAny_bind (wpAny_callSpecial?_slot (name := Str.ofString "__getitem__") ht.typeIs PyProof.Rows.slot_tuple_getitem
    (wpAny_call_entry PyProof.Rows.slot_tuple_getitem ht.typeIs entry_tuple_getitem ?_ (args_tuple_getitem _ _)))
  show wpAny _ _ (Builtin.Tuple.tupleItemsOf (.ref t) >>= _) _ _ s
  refine wpAny_bind (tupleItemsOf_ ht ?_)
  refine wpAny_bind (wpAny_typeOf hTs ?_)
  rw [if_pos (by decide)]
  refine wpAny_bind (sliceApplied_rev hs pl pu ps ?_)
  have hno : ¬ ((((items.size : Int) - 1) == 0 && (-1 : Int) == 1 && items.size == items.size) = true) := by
    intro q
    rw [Bool.and_eq_true, Bool.and_eq_true] at q
    exact absurd q.1.2 (by decide)
  show wpAny _ _ (if (((items.size : Int) - 1) == 0 && (-1 : Int) == 1 && items.size == items.size) = true then _ else _) _ _ s
  rw [if_neg hno, pick_rev]
  first
    | exact wpAny_bind (m := Builtin.Tuple.tupleExact _) (wpAny_newObj_type (wpAny_pure ⟨_, rfl, wpAny_pure h⟩) htake)
    | exact wpAny_bind (m := Builtin.Tuple.tupleExact _) (wpAny_newObj_type (wpAny_bind (wpAny_pure (wpAny_pure ⟨_, rfl, wpAny_pure h⟩))) htake)
    | exact wpAny_bind (wpAny_bind (m := Builtin.Tuple.tupleExact _) (wpAny_newObj_type (wpAny_pure (wpAny_pure ⟨_, rfl, wpAny_pure h⟩)) htake))
    | exact wpAny_bind (wpAny_bind (m := Builtin.Tuple.tupleExact _) (wpAny_newObj_type (wpAny_pure ⟨_, rfl, wpAny_pure h⟩) htake))
end
def rSortedST (K : PySem.W.Frag) : List V → Hp → VK → Prop := fun vs H Q => ∃ (a : Addr) (xs : List Str), vs = [V.ref a] ∧ SqT K H a (xs.map V.str) ∧ xs.length < 64 ∧
  ∀ (ys : List Str) (p : Addr), ys.Perm xs → sortedS ys = true → H p = none → Q (.ref p) (upd H p (.lst (ys.map V.str)))
section
variable {X : Cx}
theorem cr_sortedST : CallR X (.builtin "sorted") (rSortedST X.K) := by
  intro pins s σ H vs us Q I r h
  obtain ⟨a, xs, rfl, hs, h64, q⟩ := h
  obtain ⟨its, rv, hl, _⟩ := I.tuple hs
  rw [Vals.ref1 r]
  have hlen0 := rv.length
  rw [List.length_map] at hlen0
  have hS := rv.strs
  refine sortedT_K strKind_oneLt (by simpa using hl) hS.keysOf (fun v₁ v₂ rest e => keyKind_strs (by rw [← e]; exact hS)) (by rw [← hlen0]; exact h64) fun st' hp hs => ?_
  obtain ⟨ys, h1, h2, h3⟩ := sorted_out_str hS hp hs
  obtain ⟨ep, he'⟩ := PyProof.Rows.sortedAll_at s.heap its ((arrOf st').map (·.2))
  have hlen : (ys.map V.str).length ≤ sizeLine := by rw [List.length_map, h2.length_eq]; exact small64 h64
  exact ⟨.ref _, upd H (s.heap.objs.size + 1) (.lst (ys.map V.str)), I.laid (t' := s.toks) (fun _ _ => PyProof.Rows.sortedAll_old) (Nat.le_succ _) ⟨hlen, ((arrOf st').map (·.2)).toList, ep, vals_of_strs h1, he'⟩, rfl, q ys _ h2 h3 (I.hok.fresh (Nat.le_succ _))⟩
/-! ### t[::-1] -/
def tRevT (K : PySem.W.Frag) (te : TE) : TE := fun σ H Q => te σ H fun x H1 => ∃ a xs, x = .ref a ∧ SqT K H1 a xs ∧ ∀ p, H1 p = none → Q (.ref p) (upd H1 p (.tup xs.reverse))
theorem pe_revT {e : Expr} {te : TE} {k : Nat} {p1 p2 p3 pos : Pos} (he : PE X e te) : PE X (.Subscript e (.Slice none none (some (.UnaryOp .USub (.Constant (.int 1) k p1) p2)) p3) pos) (tRevT X.K te) := by
  refine ⟨fun pins s σ H Q I h => ?_⟩
  refine Subscript_ (thn (he.run pins s σ H _ I h) fun v s1 ⟨x, H1, I1, r1, q1⟩ => ?_)
  obtain ⟨a, xs, ex, hx, q⟩ := q1
  subst ex
  cases r1
  have hst : PO X (some (.UnaryOp .USub (.Constant (.int 1) k p1) p2)) (tPart (tUn (rU fun i => .int (-i)) (tC (.int 1)))) := po_some (pe_un un_neg pe_int)
  refine wpAny_Slice (thn (po_none.run pins s1 σ H1 (fun o H2 => o = none ∧ H2 = H1) I1 ⟨rfl, rfl⟩) fun vl s2 ⟨l, H2, I2, pl, el, e2⟩ => ?_)
  subst el e2
  refine thn (po_none.run pins s2 σ H2 (fun o H3 => o = none ∧ H3 = H2) I2 ⟨rfl, rfl⟩) fun vu s3 ⟨u, H3, I3, pu, eu, e3⟩ => ?_
  subst eu e3
  refine thn (hst.run pins s3 σ H3 (fun o H4 => o = some (-1) ∧ H4 = H3) I3 ⟨1, rfl, -1, rfl, rfl, rfl⟩) fun vs s4 ⟨o, H4, I4, ps, eo, e4⟩ => ?_
  subst eo e4
  have I5 : Inv X pins σ H4 { s4 with heap := s4.heap.push { cls := .type "slice", data := .fields #[vl, vu, vs] } } := I4.kept (t' := s4.toks) fun b ob q => Heap.get?_push_of_some _ q
  obtain ⟨its, r, ht, hz⟩ := I5.tuple hx
  have hlen := r.length
  show wpAny (model X.prog X.w) X.A (subscriptTail e (.Slice none none (some (.UnaryOp .USub (.Constant (.int 1) k p1) p2)) p3) (.ref a) (.ref s4.heap.objs.size)) (EP X pins σ Q) X.xe { s4 with heap := s4.heap.push { cls := .type "slice", data := .fields #[vl, vu, vs] } }
  refine tail_any (ops := [.ref a, .ref s4.heap.objs.size]) ht.typeIs (PyProof.Rows.slot_tuple_getitem.lookup) ?_ (by with_unfolding_all rfl)
  refine getItem_tuple_rev ht (Heap.IsSliceOf.new _ vl vu vs) pl pu ps ?_ (by rw [List.size_toArray]; omega)
  refine ⟨.ref _, _, I5.laid (t' := s4.toks) (o := .tup xs.reverse) (fun b ob q => Heap.get?_push_of_some _ q) (Nat.le_refl _) ?_, rfl, q _ (I5.hok.fresh (Nat.le_refl _))⟩
  exact ⟨by rw [List.length_reverse]; exact hz, _, r.reverse, IsTup.new _ _⟩
end
section
variable {Γ Γ' Γ'' Δ α β γ δ κ : Type} {μ : Md} {E : EV Γ} {E' : EV Γ'} {El : EV Δ} {Ra : Rp α} {Rb : Rp β} {R : Rp γ} {Rk : Rp κ} {kf : κ → Key} {K : PySem.W.Frag}
theorem c_sortST : CaN μ (rSortedST K) (a1 (rTup K rStr)) rStr fun a => .need (a.1.length < 64) (.anyOf fun b => b.Perm a.1 ∧ sortedS b = true) := fun k F H c vs a Q w r q => by
  obtain ⟨v, e, r⟩ := one r
  obtain ⟨p, ev, hp⟩ := str_tup (K := K) w.sub r
  exact ⟨p, a.1, by rw [e, ev], hp, q.1, fun ns p h1 h2 n => VN.newL w (q.2 ns ⟨h1, h2⟩) n (All2.of_map (β := Unit) V.str (fun _ => rfl) ns)⟩
theorem e_revT {te : TE} {m : Γ → M (List α)} (h : SE μ E (rTup K Ra) te m) : SE μ E (rTup K Ra) (tRevT K te) fun ρ => (m ρ).bind fun xs => .ret xs.reverse := fun k F H σ ρ c Q w e q =>
  h k F H σ ρ c _ w e (wp_imp q fun xs c1 q v F1 H1 x1 w1 ⟨p, vs, ev, hp, al⟩ => ⟨p, vs, ev, same_seqT w1.sub hp, fun l n => VP.newT w1 (VP.ext x1 q) n fun s => ⟨l, _, rfl, .of upd_same, (al.imp fun _ _ g => Ra.st s g).rev⟩⟩)
theorem n_revL {te : TE} {m : Γ → M (List α)} (h : SE μ E (rLs Ra) te m) : SN μ E Ra (tRevL K te) fun ρ => (m ρ).bind fun xs => .ret xs.reverse := fun k F H σ ρ c Q w e q =>
  h k F H σ ρ c _ w e (wp_imp q fun xs c1 q v F1 H1 x1 w1 ⟨p, vs, ev, hp, al⟩ => ⟨p, vs, ev, .of (w1.sub _ _ hp), fun l n => VN.newL w1 (VN.ext x1 q) n al.rev⟩)
/-! ### what may be none; one kind within another -/
def rOpt (R : Rp α) : Rp (Option α) := ⟨fun F v a => (a = none ∧ v = .non) ∨ ∃ x, a = some x ∧ R.r F v x ∧ v ≠ .non, fun s h => h.imp id fun ⟨x, e, r, n⟩ => ⟨x, e, R.st s r, n⟩⟩
structure NnR (R : Rp α) : Prop where
  nn : ∀ {F : Hp} {v : V} {a : α}, R.r F v a → v ≠ .non
theorem nn_tup : NnR (rTup K Ra) := ⟨fun ⟨p, vs, e, _⟩ z => by rw [e] at z; cases z⟩
theorem nn_ls : NnR (rLs Ra) := ⟨fun ⟨p, vs, e, _⟩ z => by rw [e] at z; cases z⟩
theorem nn_tx {S : RA α} : NnR (rTx K S) := ⟨fun ⟨p, vs, e, _⟩ z => by rw [e] at z; cases z⟩
theorem nn_str : NnR rStr := ⟨fun e z => by cases (show _ = V.str _ from e).symm.trans z⟩
theorem nn_int : NnR rInt := ⟨fun e z => by cases (show _ = V.int _ from e).symm.trans z⟩
theorem coe_some (n : NnR Ra) {F : Hp} {v : V} {a : α} (h : Ra.r F v a) : (rOpt Ra).r F v (some a) := .inr ⟨a, rfl, h, n.nn h⟩
theorem coe_none {F : Hp} {v : V} {a : Unit} (h : rNon.r F v a) : (rOpt Ra).r F v none := .inl ⟨rfl, h⟩
theorem opt_get {F : Hp} {v : V} {a : Option α} {b : α} (h : (rOpt Ra).r F v a) (e : a = some b) : Ra.r F v b := by
  rcases h with ⟨h1, _⟩ | ⟨x, h1, h2, _⟩
  · rw [h1] at e; cases e
  · rw [h1] at e; cases e; exact h2
theorem e_coeX {te : TE} {m : Γ → M α} {f : α → β} (h : ∀ {F : Hp} {v : V} {a : α}, Ra.r F v a → Rb.r F v (f a)) (he : SE μ E Ra te m) : SE μ E Rb te fun ρ => (m ρ).bind fun a => .ret (f a) := fun k F H σ ρ c Q w e q =>
  he k F H σ ρ c Q w e (wp_imp q fun a c1 z v F1 H1 x1 w1 r1 => z v F1 H1 x1 w1 (h r1))
theorem e_the {te : TE} {m : Γ → M α} {f : α → Option β} (h : ∀ {F : Hp} {v : V} {a : α} {b : β}, Ra.r F v a → f a = some b → Rb.r F v b) (he : SE μ E Ra te m) : SE μ E Rb te fun ρ => (m ρ).bind fun a => .the (f a) := fun k F H σ ρ c Q w e q =>
  he k F H σ ρ c Q w e (wp_imp q fun a c1 ⟨b, eb, z⟩ v F1 H1 x1 w1 r1 => z v F1 H1 x1 w1 (h r1 eb))
theorem o_isN : OpS μ (fun x y H Q => y = .non ∧ Q (.bl (decide (x = .non))) H) (rOpt Ra) rNon rBl fun a _ => .ret a.isNone := fun k F H c x y a b Q w hx hy q => by
  refine ⟨hy, VP.now w q ?_⟩
  rcases hx with ⟨h1, h2⟩ | ⟨z, h1, _, h2⟩
  · subst h1 h2; rfl
  · subst h1; show V.bl _ = V.bl _; rw [decide_eq_false h2]; rfl
theorem o_notN : OpS μ (fun x y H Q => y = .non ∧ Q (.bl (!decide (x = .non))) H) (rOpt Ra) rNon rBl fun a _ => .ret a.isSome := fun k F H c x y a b Q w hx hy q => by
  refine ⟨hy, VP.now w q ?_⟩
  rcases hx with ⟨h1, h2⟩ | ⟨z, h1, _, h2⟩
  · subst h1 h2; rfl
  · subst h1; show V.bl _ = V.bl _; rw [decide_eq_false h2]; rfl
/-! ### dicts: length, walk -/
theorem c_lenD : CaS μ (fun xs H Q => ∃ a kvs, xs = [V.ref a] ∧ Rd H a (.dK kvs) ∧ Q (.int (kvs : List (Key × V)).length) H) (a1 (rDct kf Ra)) rInt fun a => .ret (a.1.length : Int) := fun k F H c vs a Q w r q => by
  obtain ⟨v, e, p, kvs, o, ev, hp, al⟩ := one r
  exact ⟨p, kvs, by rw [e, ev], .inr ⟨o, w.sub _ _ hp⟩, VP.now w q (by show V.int _ = V.int _; rw [al.len])⟩
theorem AllD.get_at {f : V → α → Prop} {kvs : List (Key × V)} {l : List (κ × α)} (h : AllD kf f kvs l) {i : Nat} {k : κ} {a : α} (e : l[i]? = some (k, a)) : ∃ v, kvs[i]? = some (kf k, v) ∧ f v a := by
  induction h generalizing i with
  | nil => simp at e
  | @cons v k2 a2 _ _ h _ ih => cases i with
    | zero =>
      simp at e
      obtain ⟨rfl, rfl⟩ := e
      exact ⟨v, rfl, h⟩
    | succ i => simpa using ih (by simpa using e)
theorem i_keys {td : TE} {m : Γ → M (List (κ × β))} (ky : ∀ {F : Hp} {k : κ}, Rk.r F (kV (kf k)) k) (h : SE μ E (rDct kf Rb) td m) : SI μ E Rk (iKeys td) fun ρ => (m ρ).bind fun l => .ret (l.map (·.1)) := fun k F H σ ρ c W w e q =>
  h k F H σ ρ c _ w e (wp_imp q fun l c1 q v F1 H1 x1 w1 ⟨p, kvs, o, ev, hp, al⟩ => by
    refine ⟨p, o, ev, .inl ⟨kvs, w1.sub _ _ hp, q _ F1 H1 x1 w1 fun i F' H' s1 s2 => ?_⟩⟩
    have hd : H' p = some (.frz o (.dK kvs)) := s2 _ _ (s1 _ _ hp)
    refine ⟨fun a ha => ?_, fun hi => ⟨hd, by rw [al.len]; simpa using hi⟩⟩
    rw [List.getElem?_map] at ha
    cases hq : l[i]? with
    | none => rw [hq] at ha; cases ha
    | some ka =>
      rw [hq] at ha
      cases ha
      obtain ⟨v, h1, _⟩ := al.get_at hq
      refine ⟨⟨hd, (List.getElem?_eq_some_iff.mp h1).1⟩, fun x H'' ⟨eH, k2, v2, h2, ex⟩ => ?_⟩
      rw [h1] at h2
      cases h2
      subst eH ex
      exact ⟨F', ExtX.refl s2, ky⟩)
theorem ky_str2 {F : Hp} {k : Str} : rStr.r F (kV (Sum.inr k)) k := rfl
theorem ky_int2 {F : Hp} {k : Int} : rInt.r F (kV (Sum.inl k)) k := rfl
/-! ### xs.index(y) -/
theorem idx_all [DecidableEq α] (fl : FlR Ra) {F : Hp} {v : V} {a : α} (h : Ra.r F v a) {vs : List V} {xs : List α} (al : All2 (Ra.r F) vs xs) (m : a ∈ xs) : vs.all flatV = true ∧ (∃ z, vs[xs.idxOf a]? = some z ∧ eqV z v = true) ∧ ∀ (j : Nat) (z' : V), j < xs.idxOf a → vs[j]? = some z' → eqV z' v = false := by
  refine ⟨(in_all fl h al).1, ?_, fun j z' hj hz => ?_⟩
  · have hl : xs.idxOf a < xs.length := List.idxOf_lt_length_iff.mpr m
    obtain ⟨z, hz, r⟩ := al.get (show xs[xs.idxOf a]? = some a by rw [List.getElem?_eq_getElem hl, List.getElem_idxOf])
    exact ⟨z, hz, by rw [fl.eq r h]; exact decide_eq_true rfl⟩
  · have hl : j < xs.length := by
      have := (List.getElem?_eq_some_iff.mp hz).1
      rw [al.len] at this
      exact this
    obtain ⟨z2, hz2, r⟩ := al.get (List.getElem?_eq_getElem hl)
    rw [hz] at hz2
    cases hz2
    rw [fl.eq r h]
    refine decide_eq_false fun e => ?_
    have h3 := List.not_of_lt_findIdx (show j < xs.findIdx (· == a) from hj)
    rw [e] at h3
    simp at h3
theorem e_index [DecidableEq α] (fl : FlR Ra) {to te : TE} {mo : Γ → M (List α)} {m : Γ → M α} (ho : SE μ E (rLs Ra) to mo) (he : SE μ E Ra te m) :
    SE μ E rInt (tBM K "list" (rIndex K) to (tCons te tNil)) fun ρ => (mo ρ).bind fun xs => (m ρ).bind fun a => .need (a ∈ xs) (.ret (xs.idxOf a : Int)) := fun k F H σ ρ c Q w e h =>
  ho k F H σ ρ c _ w e (wp_imp h fun xs c1 q v F1 H1 x1 w1 ⟨p, vs, ev, hp, al⟩ => by
    subst ev
    refine ⟨.inl ⟨rfl, vs, .of (w1.sub _ _ hp)⟩, he k F1 H1 σ ρ c1 _ w1 (e.step x1) (wp_imp q fun a c2 ⟨m, q⟩ u F2 H2 x2 w2 r2 => ?_)⟩
    obtain ⟨h1, ⟨z, hz, ez⟩, h3⟩ := idx_all fl r2 (al.imp fun _ _ g => Ra.st x2.fz g) m
    exact ⟨p, vs, u, _, z, rfl, rfl, .of (w2.sub _ _ (x2.fz _ _ hp)), fl.fl r2, h1, hz, ez, h3, q _ F2 H2 (x1.trans x2) w2 rfl⟩)
/-- .. of a list of one's own -/
theorem e_indexO [DecidableEq α] (fl : FlR Ra) {i : Nat} {g : Γ → List α} {put : Γ → List α → Γ} {te : TE} {m : Γ → M α} (hm : ModS E i Ra g put) (he : SE μ E Ra te m) :
    SE μ E rInt (tBM K "list" (rIndex K) (tVar i) (tCons te tNil)) fun ρ => (m ρ).bind fun a => .need (a ∈ g ρ) (.ret ((g ρ).idxOf a : Int)) := fun k F H σ ρ c Q w e h => by
  obtain ⟨p, vs, h1, h2, h3, h4⟩ := hm.get e.r
  obtain ⟨_, f0, n0, np⟩ := E.has e.r h4
  refine ⟨.ref p, h1, tyL h2, he k F H σ ρ c _ w e (wp_imp h fun a c1 ⟨mm, q⟩ v F1 H1 x1 w1 r1 => ?_)⟩
  obtain ⟨q1, ⟨z, hz, ez⟩, q3⟩ := idx_all fl r1 (h3.imp fun _ _ g => Ra.st x1.fz g) mm
  exact ⟨p, vs, v, _, z, rfl, rfl, .of (x1.hp p _ np h2), fl.fl r1, q1, hz, ez, q3, q _ F1 H1 x1 w1 rfl⟩
/-! ### d in ds, data -/
theorem o_inD {K : PySem.W.Frag} {da : α → PyData} {i j : Nat} (hA : DpR K Ra da i) (hB : DpR K (rLs Ra) (fun xs => .list (xs.map da)) j) (hi : i ≤ 64 := by decide) (hj : j ≤ 64 := by decide) :
    OpS μ (rInD K) Ra (rLs Ra) rBl fun a xs => .need ((da a).canLay0 = true ∧ (PyData.list (xs.map da)).canLay0 = true) (.ret ((xs.map da).any fun z => PyData.eqv z (da a))) := fun k F H c x y a b Q w hx hy q =>
  ⟨_, _, Dp.same w.sub (hA.dp hx), Dp.same w.sub (hB.dp hy), shaped_of (hA.deep a) hi q.1.1, shaped_of (hB.deep b) hj q.1.2, VP.now w q.2 rfl⟩
end
section
variable {X : Cx}
theorem call_lenDR : CallR X (.builtin "len") (fun xs H Q => ∃ a kvs, xs = [V.ref a] ∧ Rd H a (.dK kvs) ∧ Q (.int (kvs : List (Key × V)).length) H) := by
  intro pins s σ H xs us Q I r h
  obtain ⟨a, kvs, rfl, ha, q⟩ := h
  obtain ⟨u, rfl, ru⟩ := vals1 r
  cases ru
  exact d_len I ha fun t s' I' => ⟨.int kvs.length, H, I', ⟨t, rfl⟩, q⟩
end
end PF

set_option Elab.async false
set_option linter.all false
set_option maxRecDepth 100000
set_option maxHeartbeats 1000000
namespace PF
open PySem PySem.Spec PyProof.Rows L2 SlX
/-! ### own classes with slots: what stands in the slots -/
structure RV (Γ : Type) where
  r : Hp → (Nat → Option (Option V)) → Γ → Prop
  st : ∀ {F F' : Hp} {f : Nat → Option (Option V)} {a : Γ}, Same F F' → r F f a → r F' f a
  cg : ∀ {F : Hp} {f g : Nat → Option (Option V)} {a : Γ}, (∀ i v, f i = some (some v) → g i = some (some v)) → r F f a → r F g a
def vNil : RV Unit := ⟨fun _ _ _ => True, fun _ h => h, fun _ h => h⟩
/-- not written yet -/
def vUn {Γ : Type} (E : RV Γ) : RV (Unit × Γ) := ⟨fun F f a => E.r F (fun i => f (i + 1)) a.2, fun s h => E.st s h, fun h k => E.cg (fun i v e => h (i + 1) v e) k⟩
def vVal {α Γ : Type} (R : Rp α) (E : RV Γ) : RV (α × Γ) :=
  ⟨fun F f a => (∃ v, f 0 = some (some v) ∧ R.r F v a.1) ∧ E.r F (fun i => f (i + 1)) a.2, fun s ⟨⟨v, e, h⟩, t⟩ => ⟨⟨v, e, R.st s h⟩, E.st s t⟩, fun h ⟨⟨v, e, k⟩, t⟩ => ⟨⟨v, h 0 v e, k⟩, E.cg (fun i v e => h (i + 1) v e) t⟩⟩
structure VGet {Γ α : Type} (E : RV Γ) (i : Nat) (R : Rp α) (g : Γ → α) : Prop where
  get : ∀ {F : Hp} {f : Nat → Option (Option V)} {a : Γ}, E.r F f a → ∃ v, f i = some (some v) ∧ R.r F v (g a)
theorem vget0 {Γ α : Type} {R : Rp α} {E : RV Γ} : VGet (vVal R E) 0 R (·.1) := ⟨fun h => h.1⟩
theorem vgetS {Γ α β : Type} {R : Rp α} {T : Rp β} {E : RV Γ} {i : Nat} {g : Γ → β} (h : VGet E i T g) : VGet (vVal R E) (i + 1) T (fun a => g a.2) := ⟨fun k => h.get k.2⟩
theorem vgetU {Γ β : Type} {T : Rp β} {E : RV Γ} {i : Nat} {g : Γ → β} (h : VGet E i T g) : VGet (vUn E) (i + 1) T (fun a => g a.2) := ⟨fun k => h.get k⟩
/-- slot i is written -/
structure VPut {Γ Γ' β : Type} (E : RV Γ) (i : Nat) (R : Rp β) (E' : RV Γ') (put : Γ → β → Γ') : Prop where
  put : ∀ {F : Hp} {f g : Nat → Option (Option V)} {a : Γ} {b : β} {y : V}, E.r F f a → R.r F y b → g i = some (some y) → (∀ j v, j ≠ i → f j = some (some v) → g j = some (some v)) → E'.r F g (put a b)
theorem vput0U {Γ β : Type} {R : Rp β} {E : RV Γ} : VPut (vUn E) 0 R (vVal R E) (fun a b => (b, a.2)) := ⟨fun h k e q => ⟨⟨_, e, k⟩, E.cg (fun i v z => q (i + 1) v (Nat.succ_ne_zero i) z) h⟩⟩
theorem vput0V {Γ α β : Type} {R : Rp β} {T : Rp α} {E : RV Γ} : VPut (vVal T E) 0 R (vVal R E) (fun a b => (b, a.2)) := ⟨fun h k e q => ⟨⟨_, e, k⟩, E.cg (fun i v z => q (i + 1) v (Nat.succ_ne_zero i) z) h.2⟩⟩
theorem vputU {Γ Γ' β : Type} {R : Rp β} {E : RV Γ} {E' : RV Γ'} {i : Nat} {put : Γ → β → Γ'} (h : VPut E i R E' put) : VPut (vUn E) (i + 1) R (vUn E') (fun a b => (a.1, put a.2 b)) :=
  ⟨fun k r e q => h.put (f := fun j => _) k r e fun j v n z => q (j + 1) v (by omega) z⟩
theorem vputV {Γ Γ' α β : Type} {R : Rp β} {T : Rp α} {E : RV Γ} {E' : RV Γ'} {i : Nat} {put : Γ → β → Γ'} (h : VPut E i R E' put) : VPut (vVal T E) (i + 1) R (vVal T E') (fun a b => (a.1, put a.2 b)) :=
  ⟨fun ⟨⟨v, e0, k0⟩, k⟩ r e q => ⟨⟨v, q 0 v (Nat.succ_ne_zero i).symm e0, k0⟩, h.put (f := fun j => _) k r e fun j v n z => q (j + 1) v (by omega) z⟩⟩
/-- whole instances, which stand still -/
def rObj {Γ : Type} (C : Addr) (U : RV Γ) : Rp Γ := ⟨fun F v a => ∃ p dx vs, v = .ref p ∧ dx ≠ p ∧ F p = some (SlO p C dx vs) ∧ F dx = some (.xd []) ∧ U.r F (fun i => vs[i]?) a, fun s ⟨p, dx, vs, e, n, h1, h2, t⟩ => ⟨p, dx, vs, e, n, s _ _ h1, s _ _ h2, U.st s t⟩⟩
/-- .. the one at A -/
def rObjA {Γ : Type} (A C : Addr) (U : RV Γ) : Rp Γ := ⟨fun F v a => v = .ref A ∧ (rObj C U).r F v a, fun s ⟨e, h⟩ => ⟨e, (rObj C U).st s h⟩⟩
theorem slr_obj {Γ : Type} {C : Addr} {U : RV Γ} : SlR1 (rObj C U) C := ⟨fun ⟨p, dx, vs, e, n, h1, h2, t⟩ => ⟨p, dx, vs, e, .inr ⟨h1, h2⟩⟩⟩
/-- an instance within its own __init__ -/
def SelfAt {Γ : Type} (C : Addr) (U : RV Γ) (p : Option Addr) (H0 F H : Hp) (D dx : Addr) (a : Γ) : Prop :=
  dx ≠ D ∧ F D = none ∧ H0 D = none ∧ H0 dx = none ∧ p ≠ some D ∧ p ≠ some dx ∧
  ∃ vs, U.r F (fun i => vs[i]?) a ∧ ((H D = some (.ins C dx []) ∧ H dx = some (.own D) ∧ F dx = none ∧ vs = []) ∨ (H D = some (SlO D C dx vs) ∧ H dx = some (.xd [])))
def sSelf {Γ : Type} (A : Addr) (C : Addr) (U : RV Γ) : SR Γ where
  r := fun p H0 F H o a => ∃ D dx, (o = some (.ref D) ∧ D = A) ∧ SelfAt C U p H0 F H D dx a
  own := fun o => match o with
    | some (.ref D) => some D
    | _ => none
  step := fun x ⟨D, dx, e, n, f, h1, h2, p1, p2, vs, k, h⟩ => by
    rcases h with ⟨a1, a2, a3, a4⟩ | ⟨a1, a2⟩
    · exact ⟨D, dx, e, n, (x.old D (some_ne a1)).trans f, h1, h2, p1, p2, vs, U.st x.fz k, .inl ⟨x.hp _ _ p1 a1, x.hp _ _ p2 a2, (x.old dx (some_ne a2)).trans a3, a4⟩⟩
    · exact ⟨D, dx, e, n, (x.old D (some_ne a1)).trans f, h1, h2, p1, p2, vs, U.st x.fz k, .inr ⟨x.hp _ _ p1 a1, x.hp _ _ p2 a2⟩⟩
  upd := fun {p H0 F H o a D' x} c w ⟨D, dx, e, n, f, h1, h2, p1, p2, vs, k, h⟩ => by
    have n1 : D ≠ D' := fun z => c (by rw [e.1, z])
    have n2 : dx ≠ D' := fun z => by
      subst z
      rcases h with ⟨_, a2, _⟩ | ⟨_, a2⟩ <;> rcases w with w | ⟨u, w, l⟩
      · rw [a2] at w; cases w
      · rw [a2] at w; cases w; cases l
      · rw [a2] at w; cases w
      · rw [a2] at w; cases w; cases l
    refine ⟨D, dx, e, n, f, h1, h2, p1, p2, vs, k, ?_⟩
    rw [upd_ne n1, upd_ne n2]; exact h
  fz := fun {p H0 F H o a D' x} s c w ⟨D, dx, e, n, f, h1, h2, p1, p2, vs, k, h⟩ => by
    have n1 : D ≠ D' := fun z => c (by rw [e.1, z])
    have n2 : dx ≠ D' := fun z => by
      subst z
      rcases h with ⟨_, a2, _⟩ | ⟨_, a2⟩ <;> rcases w with w | ⟨u, w, l⟩
      · rw [a2] at w; cases w
      · rw [a2] at w; cases w; cases l
      · rw [a2] at w; cases w
      · rw [a2] at w; cases w; cases l
    refine ⟨D, dx, e, n, by rw [upd_ne n1]; exact f, h1, h2, p1, p2, vs, U.st s k, ?_⟩
    rw [upd_ne n2]; exact h
  has := fun ⟨D, dx, ⟨e, _⟩, n, f, h1, h2, p1, p2, vs, k, h⟩ c => by
    subst e
    cases c
    refine ⟨?_, f, h1, p1⟩
    rcases h with ⟨a1, _⟩ | ⟨a1, _⟩ <;> exact some_ne a1
/-- the other names lead to no instance that is not whole -/
structure PlE {Γ : Type} (E : EV Γ) : Prop where
  upd : ∀ {p : Option Addr} {H0 F H : Hp} {σ : L2.St} {ρ : Γ} {D : Addr} {x : HO}, (∃ o, H D = some o ∧ lsty o = false) → E.r p H0 F H σ ρ → E.r p H0 F (L2.upd H D x) σ ρ
  fz : ∀ {p : Option Addr} {H0 F F' H : Hp} {σ : L2.St} {ρ : Γ}, Same F F' → (∀ D, F D = none → F' D ≠ none → ∃ o, H D = some o ∧ lsty o = false) → E.r p H0 F H σ ρ → E.r p H0 F' H σ ρ
theorem pl_nil : PlE eNil := ⟨fun _ h => h, fun _ _ h => h⟩
theorem pl_un {Γ : Type} {E : EV Γ} (h : PlE E) : PlE (eCons sUn E) := ⟨fun w ⟨o, τ, e, r, t⟩ => ⟨o, τ, e, r, h.upd w t⟩, fun s n ⟨o, τ, e, r, t⟩ => ⟨o, τ, e, r, h.fz s n t⟩⟩
theorem pl_val {α Γ : Type} {R : Rp α} {E : EV Γ} (h : PlE E) : PlE (eCons (sVal R) E) := ⟨fun w ⟨o, τ, e, r, t⟩ => ⟨o, τ, e, r, h.upd w t⟩, fun s n ⟨o, τ, e, ⟨v, e2, k⟩, t⟩ => ⟨o, τ, e, ⟨v, e2, R.st s k⟩, h.fz s n t⟩⟩
theorem pl_own {α Γ : Type} {R : Rp α} {E : EV Γ} (h : PlE E) : PlE (eCons (sOwn R) E) where
  upd := fun {p H0 F H σ ρ D' x} w ⟨o, τ, e, ⟨D, vs, e2, k1, k2, k3, k4, k5⟩, t⟩ => by
    refine ⟨o, τ, e, ⟨D, vs, e2, ?_, k2, k3, k4, k5⟩, h.upd w t⟩
    obtain ⟨u, w1, w2⟩ := w
    rw [upd_ne (fun z => by rw [← z, k1] at w1; cases w1; cases w2)]; exact k1
  fz := fun s n ⟨o, τ, e, ⟨D, vs, e2, k1, k2, k3, k4, k5⟩, t⟩ => by
    refine ⟨o, τ, e, ⟨D, vs, e2, k1, k2.imp fun _ _ g => R.st s g, ?_, k4, k5⟩, h.fz s n t⟩
    refine Classical.byContradiction fun c => ?_
    obtain ⟨u, w1, w2⟩ := n D k3 c
    rw [k1] at w1; cases w1; cases w2
theorem SelfAt.slt {Γ : Type} {C : Addr} {U : RV Γ} {p : Option Addr} {H0 F H : Hp} {D dx : Addr} {a : Γ} (h : SelfAt C U p H0 F H D dx a) : ∃ vs, Slt H D C dx vs ∧ U.r F (fun i => vs[i]?) a := by
  obtain ⟨_, _, _, _, _, _, vs, k, h⟩ := h
  rcases h with ⟨h1, _, _, h4⟩ | ⟨h1, h2⟩
  · exact ⟨vs, .inl ⟨h1, h4⟩, k⟩
  · exact ⟨vs, .inr ⟨h1, h2⟩, k⟩
/-- a slot is written: the heap behind it -/
theorem SelfAt.put {Γ Γ' β : Type} {C : Addr} {U : RV Γ} {U' : RV Γ'} {i : Nat} {R : Rp β} {put : Γ → β → Γ'} {k : Cn} {F H : Hp} {c : Nat} {D dx : Addr} {a : Γ} {b : β} {y : V} (hv : VPut U i R U' put) (w : Wo k F H c) (h : SelfAt C U k.p k.H0 F H D dx a) (r : R.r F y b) :
    ∃ vs, Slt H D C dx vs ∧ Wo k F (slH H D C dx (SlX.putS i y vs)) c ∧ SelfAt C U' k.p k.H0 F (slH H D C dx (SlX.putS i y vs)) D dx (put a b) := by
  obtain ⟨n, f, h1, h2, p1, p2, vs, kk, hh⟩ := h
  have kv : U'.r F (fun j => (SlX.putS i y vs)[j]?) (put a b) := hv.put kk r (putS_get i y vs) fun j v nj e => (putS_ne nj).mpr e
  have fin : Wo k F (slH H D C dx (SlX.putS i y vs)) c := by
    rcases hh with ⟨a1, a2, a3, a4⟩ | ⟨a1, a2⟩
    · exact (w.mod (o := .xd []) h2 a3).mod h1 f
    · have e : slH H D C dx (SlX.putS i y vs) = upd H D (SlO D C dx (SlX.putS i y vs)) := by
        funext b'
        unfold slH
        by_cases z : b' = D
        · rw [z, upd_same, upd_same]
        · rw [upd_ne z, upd_ne z]
          by_cases z2 : b' = dx
          · rw [z2, upd_same, a2]
          · rw [upd_ne z2]
      rw [e]; exact w.mod h1 f
  have sl : Slt H D C dx vs := by
    rcases hh with ⟨a1, _, _, a4⟩ | ⟨a1, a2⟩
    · exact .inl ⟨a1, a4⟩
    · exact .inr ⟨a1, a2⟩
  exact ⟨vs, sl, fin, n, f, h1, h2, p1, p2, _, kv, .inr ⟨upd_same, by unfold slH; rw [upd_ne n, upd_same]⟩⟩
theorem PlE.slH {Γ : Type} {E : EV Γ} (h : PlE E) {C : Addr} {p : Option Addr} {H0 F H : Hp} {σ : L2.St} {ρ : Γ} {D dx : Addr} {vs vs' : List (Option V)} (n : dx ≠ D) (sl : Slt H D C dx vs) (hd : ∃ o, H dx = some o ∧ lsty o = false) (k : E.r p H0 F H σ ρ) : E.r p H0 F (SlX.slH H D C dx vs') σ ρ := by
  refine h.upd ?_ (h.upd hd k)
  rw [upd_ne (Ne.symm n)]
  rcases sl with ⟨a1, _⟩ | ⟨a1, _⟩
  · exact ⟨_, a1, rfl⟩
  · exact ⟨_, a1, rfl⟩
theorem SelfAt.dl {Γ : Type} {C : Addr} {U : RV Γ} {p : Option Addr} {H0 F H : Hp} {D dx : Addr} {a : Γ} (h : SelfAt C U p H0 F H D dx a) : ∃ o, H dx = some o ∧ lsty o = false := by
  obtain ⟨_, _, _, _, _, _, vs, k, h⟩ := h
  rcases h with ⟨_, h1, _, _⟩ | ⟨_, h2⟩
  · exact ⟨_, h1, rfl⟩
  · exact ⟨_, h2, rfl⟩
section
variable {Γ Γ' Δ α β γ Λ Λ' : Type} {μ : Md} {E : EV Γ} {El : EV Δ} {Rb : Rp β} {R : Rp γ} {A C : Addr} {U : RV Λ} {U' : RV Λ'}
/-- self.f = e -/
theorem s_self {i : Nat} {te : TE} {m : Λ × Γ → M β} {put : Λ → β → Λ'} (pl : PlE E) (hv : VPut U i Rb U' put) (he : SE μ (eCons (sSelf A C U) E) Rb te m) :
    SS μ (eCons (sSelf A C U) E) (eCons (sSelf A C U') E) El R (sSlC C i (tVar 0) te) fun ρ => (m ρ).bind fun b => .ret (.nx (put ρ.1 b, ρ.2)) := fun k F H σ ρ c D w e h =>
  he k F H σ ρ c _ w e (wp_imp h fun b c1 q y F1 H1 x1 w1 r1 => by
    have e1 := e.step x1
    obtain ⟨o, τ, es, ⟨A', dx, ⟨eo, eA⟩, sa⟩, t⟩ := e1.r
    subst es eo eA
    refine ⟨.ref A', rfl, ?_⟩
    obtain ⟨vs, sl, w2, sa2⟩ := sa.put hv w1 r1
    refine ⟨A', dx, vs, rfl, sl, q F1 _ _ x1.fz w2 ⟨⟨_, τ, rfl, ⟨A', dx, ⟨rfl, rfl⟩, sa2⟩, pl.slH sa.1 sl sa.dl t⟩, e1.nd⟩⟩)
/-- .. the last: from now on the instance stands still -/
theorem s_selfE {i : Nat} {te : TE} {m : Λ × Γ → M β} {put : Λ → β → Λ'} (pl : PlE E) (hv : VPut U i Rb U' put) (he : SE μ (eCons (sSelf A C U) E) Rb te m) :
    SS μ (eCons (sSelf A C U) E) (eCons (sVal (rObjA A C U')) E) El R (sSlC C i (tVar 0) te) fun ρ => (m ρ).bind fun b => .ret (.nx (put ρ.1 b, ρ.2)) := fun k F H σ ρ c D w e h =>
  he k F H σ ρ c _ w e (wp_imp h fun b c1 q y F1 H1 x1 w1 r1 => by
    have e1 := e.step x1
    obtain ⟨o, τ, es, ⟨A', dx, ⟨eo, eA⟩, sa⟩, t⟩ := e1.r
    subst es eo eA
    refine ⟨.ref A', rfl, ?_⟩
    obtain ⟨vs, sl, w2, sa2⟩ := sa.put hv w1 r1
    obtain ⟨n, f, h1, h2, p1, p2, vs', kk, hh⟩ := sa2
    have t2 := pl.slH (vs' := SlX.putS i y vs) sa.1 sl sa.dl t
    obtain ⟨a1, a2⟩ : slH H1 A' C dx (SlX.putS i y vs) A' = some (SlO A' C dx vs') ∧ slH H1 A' C dx (SlX.putS i y vs) dx = some (.xd []) := by
      rcases hh with ⟨a1, _⟩ | hh
      · unfold slH at a1; rw [upd_same] at a1; unfold SlO at a1; cases a1
      · exact hh
    have nd : (E.owns τ).Nodup := (List.nodup_cons.mp e1.nd).2
    -- both are let go
    have Fa := f
    obtain ⟨s1, w3⟩ := w2.fz h1 f a1
    by_cases z : F1 dx = none
    · have z' : upd F1 A' (SlO A' C dx vs') dx = none := by rw [upd_ne n]; exact z
      obtain ⟨s2, w4⟩ := w3.fz h2 z' a2
      refine ⟨A', dx, vs, rfl, sl, q _ _ _ (x1.fz.trans (s1.trans s2)) w4 ⟨⟨_, τ, rfl, ⟨_, rfl, rfl, A', dx, vs', rfl, n, by rw [upd_ne (Ne.symm n), upd_same], upd_same, U'.st (s1.trans s2) kk⟩, pl.fz (s1.trans s2) (fun D' d1 d2 => ?_) t2⟩, nd⟩⟩
      by_cases z1 : D' = dx
      · rw [z1]; exact ⟨_, a2, rfl⟩
      · rw [upd_ne z1] at d2
        by_cases z3 : D' = A'
        · rw [z3]; exact ⟨_, a1, rfl⟩
        · rw [upd_ne z3] at d2; exact absurd d1 d2
    · have z' : F1 dx = some (.xd []) := by
        cases q : F1 dx with
        | none => exact absurd q z
        | some u =>
          have := w2.sub _ _ q
          rw [a2] at this
          exact this.symm
      refine ⟨A', dx, vs, rfl, sl, q _ _ _ (x1.fz.trans s1) w3 ⟨⟨_, τ, rfl, ⟨_, rfl, rfl, A', dx, vs', rfl, n, upd_same, by rw [upd_ne n]; exact z', U'.st s1 kk⟩, pl.fz s1 (fun D' d1 d2 => ?_) t2⟩, nd⟩⟩
      by_cases z3 : D' = A'
      · rw [z3]; exact ⟨_, a1, rfl⟩
      · rw [upd_ne z3] at d2; exact absurd d1 d2)
/-- self.f, within __init__ -/
theorem e_selfget {i : Nat} {g : Λ → β} (hv : VGet U i Rb g) : SE μ (eCons (sSelf A C U) E) Rb (tSlC C i (tVar 0)) fun ρ => .ret (g ρ.1) := fun k F H σ ρ c Q w e q => by
  obtain ⟨o, τ, es, ⟨A', dx, ⟨eo, eA⟩, sa⟩, t⟩ := e.r
  subst es eo eA
  obtain ⟨vs, sl, kk⟩ := sa.slt
  obtain ⟨v, ev, r⟩ := hv.get kk
  exact ⟨.ref A', rfl, A', dx, vs, v, rfl, sl, ev, VP.now w q r⟩
/-- o.f -/
structure SlG (Ro : Rp α) (C : Addr) (i : Nat) (Rb : Rp β) (P : α → β → Prop) : Prop where
  get : ∀ {F : Hp} {v : V} {a : α}, Ro.r F v a → ∃ p dx vs x b, v = .ref p ∧ Slt F p C dx vs ∧ vs[i]? = some (some x) ∧ Rb.r F x b ∧ P a b
theorem slg_obj {i : Nat} {g : Λ → β} (hv : VGet U i Rb g) : SlG (rObj C U) C i Rb (fun a b => b = g a) := ⟨fun ⟨p, dx, vs, e, n, h1, h2, t⟩ => by
  obtain ⟨v, ev, r⟩ := hv.get t
  exact ⟨p, dx, vs, v, _, e, .inr ⟨h1, h2⟩, ev, r, rfl⟩⟩
theorem e_slot {Ro : Rp α} {i : Nat} {g : α → β} {te : TE} {m : Γ → M α} (hs : SlG Ro C i Rb (fun a b => b = g a)) (h : SE μ E Ro te m) : SE μ E Rb (tSlC C i te) fun ρ => (m ρ).bind fun a => .ret (g a) := fun k F H σ ρ c Q w e q =>
  h k F H σ ρ c _ w e (wp_imp q fun a c1 q v F1 H1 x1 w1 r1 => by
    obtain ⟨p, dx, vs, x, b, ev, sl, ex, r, eb⟩ := hs.get r1
    subst eb
    exact ⟨p, dx, vs, x, ev, slt_same w1.sub sl, ex, q x F1 H1 x1 w1 r⟩)
theorem e_slotP {Ro : Rp α} {i : Nat} {P : α → β → Prop} {te : TE} {m : Γ → M α} (hs : SlG Ro C i Rb P) (h : SE μ E Ro te m) : SE μ E Rb (tSlC C i te) fun ρ => (m ρ).bind fun a => .anyOf (P a) := fun k F H σ ρ c Q w e q =>
  h k F H σ ρ c _ w e (wp_imp q fun a c1 q v F1 H1 x1 w1 r1 => by
    obtain ⟨p, dx, vs, x, b, ev, sl, ex, r, eb⟩ := hs.get r1
    exact ⟨p, dx, vs, x, ev, slt_same w1.sub sl, ex, q b eb x F1 H1 x1 w1 r⟩)
end
/-! ### __init__ -/
def minus (H : Hp) (D dx : Addr) : Hp := fun b => if b = D ∨ b = dx then none else H b
/-- the promise of an __init__: the instance, not yet written, at D -/
def spOfI {α Λ : Type} (C : Addr) (S : RA α) (Ro : Rp Λ) (m : α → M Λ) : Sp := fun vs H Q _ => ∃ F D dx ws a, vs = .ref D :: ws ∧ dx ≠ D ∧ H D = some (.ins C dx []) ∧ H dx = some (.own D) ∧ F D = none ∧ F dx = none ∧ Same F (minus H D dx) ∧ S.r F ws a ∧
  (m a).wp 0 (fun b _ => ∀ F' H', ExtX none F (minus H D dx) F' H' → Ro.r F' (.ref D) b → Q .non H') (fun _ => False)
def fstS {α β : Type} (a : α × β) : α := a.1
section
variable {Γ Γ' Δ α β γ Λ : Type} {μ : Md} {E : EV Γ} {E' : EV Γ'} {Rb : Rp β} {R : Rp γ} {C : Addr} {U : RV Λ}
structure StI {Λ0 : Type} (C : Addr) (U0 : RV Λ0) (z : Λ0) (S : RA α) (n : Nat) (E : EV Γ) (ρ0 : α → Γ) : Prop where
  v0 : ∀ {F : Hp} {f : Nat → Option (Option V)}, U0.r F f z
  r : St0 S n E ρ0
/-- a def's value: what is known of self at its end -/
def M.finIK {Γ Λ : Type} : Ct (Λ × Γ) Unit Unit → M Λ
  | .nx ρ => .ret ρ.1
  | _ => M.none
def M.finI {Γ Λ : Type} (m : M (Ct (Λ × Γ) Unit Unit)) : M Λ := m.bind M.finIK
theorem M.finI_wp {Γ Λ : Type} {m : M (Ct (Λ × Γ) Unit Unit)} {c : Nat} {Q : Λ → Nat → Prop} {X : Er → Prop} : (M.finI m).wp c Q X = m.wp c (fun k d => (M.finIK k).wp d Q X) X := id rfl
theorem M.finI_nx {Γ Λ : Type} {ρ : Λ × Γ} : M.finIK (.nx ρ) = .ret ρ.1 := id rfl
theorem fn_bodyI {Λ0 : Type} {U0 : RV Λ0} {z : Λ0} {S : RA α} {n : Nat} {ρ0 : α → Γ} {N : List Str} {t : TS} {mb : Λ0 × Γ → M (Ct (Λ × Γ') Unit Unit)} (h0 : StI C U0 z S n E ρ0) (hn : N.length = S.n + 1 + n) (hb : ∀ A, SS md0 (eCons (sSelf A C U0) E) (eCons (sVal (rObjA A C U)) E') eNil rNon t mb) {vs : List V} {H : Hp} {Q : VK} {X : XK}
    (hs : spOfI C S (rObj C U) (fun a => M.finI (mb (z, ρ0 a))) vs H Q X) : t { nx := fun _ H' => Q .non H', rt := Q } (L2.start N vs) H := by
  obtain ⟨F, D, dx, ws, a, rfl, ne, hD, hdx, fD, fdx, s, r, h⟩ := hs
  rw [start_eq (n := n) (by rw [hn, List.length_cons, S.len r])]
  have mD : minus H D dx D = none := if_pos (.inl rfl)
  have mdx : minus H D dx dx = none := if_pos (.inr rfl)
  have sub : Same F H := fun b o e => by
    have e2 := s b o e
    unfold minus at e2
    by_cases c : b = D ∨ b = dx
    · rw [if_pos c] at e2; cases e2
    · rw [if_neg c] at e2; exact e2
  have hm : ∀ b o, minus H D dx b = some o → H b = some o := fun b o e2 => by
    unfold minus at e2
    by_cases c : b = D ∨ b = dx
    · rw [if_pos c] at e2; cases e2
    · rw [if_neg c] at e2; exact e2
  have w0 : Wo ⟨none, F, minus H D dx⟩ F H 0 := ⟨sub, ⟨Same.refl F, sub, fun b o _ e => hm b o e, fun _ _ => rfl, fun b nb => by
    cases q : minus H D dx b with
    | none => exact absurd q nb
    | some o => rw [hm b o q]; simp⟩, fun _ e => nomatch e⟩
  have hE := h0.r.ow (ws.map some ++ List.replicate n none)
  have e0 : EI ⟨none, F, minus H D dx⟩ (eCons (sSelf D C U0) E) F H (((.ref D :: ws).map some) ++ List.replicate n none) (z, ρ0 a) :=
    ⟨⟨some (.ref D), ws.map some ++ List.replicate n none, rfl, ⟨D, dx, ⟨rfl, rfl⟩, ne, fD, mD, mdx, (fun z => nomatch z), (fun z => nomatch z), [], h0.v0, .inl ⟨hD, hdx, fdx, rfl⟩⟩, h0.r.r r⟩, by
      show (([D] : List Addr) ++ E.owns (ws.map some ++ List.replicate n none)).Nodup
      rw [hE]; simp⟩
  refine hb D ⟨none, F, minus H D dx⟩ F H _ (z, ρ0 a) 0 _ w0 e0 ?_
  refine (mb (z, ρ0 a)).mono 0 (fun t c z => ?_) (fun er z => z.elim) h
  cases t with
  | nx ρ =>
    intro F' H' σ' s' w' e'
    obtain ⟨o, τ, _, ⟨v, eo, ev, k⟩, _⟩ := e'.r
    subst ev
    exact z F' H' w'.ext k
  | rt b => exact z.elim
  | bk _ => exact z.elim
  | ct _ => exact z.elim
end
end PF

set_option Elab.async false
set_option linter.all false
set_option maxRecDepth 100000
set_option maxHeartbeats 1000000
namespace PF
open PySem PySem.Spec PyProof.Rows L2 SlX
/-! ### own classes with slots: made, asked, compared -/
/-- the class itself, as a value -/
def rCls (C : Addr) : Rp Unit := ⟨fun _ v _ => v = .ref C, fun _ h => h⟩
theorem minus_new {H : Hp} {x dx : Addr} {o o' : HO} (nx : H x = none) (nd : H dx = none) : minus (upd (upd H dx o) x o') x dx = H := by
  funext b
  unfold minus
  by_cases c : b = x ∨ b = dx
  · rw [if_pos c]
    rcases c with c | c
    · rw [c, nx]
    · rw [c, nd]
  · rw [if_neg c, upd_ne (fun z => c (.inl z)), upd_ne (fun z => c (.inr z))]
section
variable {Γ : Type} {α β γ δ Λ : Type} {E : EV Γ} {C : Addr} {U : RV Λ} {Ro : Rp α} {Rb : Rp β} {R : Rp γ} {Rd : Rp δ} {K : PySem.W.Frag}
theorem e_makeF {S : RA α} {ta : TA} {ma : Γ → M α} {m : α → M Λ} {P : α → Prop} {f : α → δ} {Fl : δ → Λ → Prop} (hd : ∀ {F : Hp} {v : V} {d : δ} {b : Λ}, Fl d b → (rObj C U).r F v b → Rd.r F v d)
    (hm : ∀ a c Q X, P a → (∀ b, Fl (f a) b → Q b c) → (m a).wp c Q X) (ha : SA md0 E S ta ma) : SE md0 E Rd (tMake C (spOfI C S (rObj C U) m) [] E0 ta) fun ρ => (ma ρ).bind fun a => .need (P a) (.ret (f a)) := fun k F H σ ρ c Q w e h =>
  ha k F H σ ρ c _ w e (wp_imp h fun a c1 ⟨hp, q⟩ vs F1 H1 x1 w1 r1 x dx nx nd ne => by
    rw [List.append_nil]
    refine ⟨F1, x, dx, vs, a, rfl, ne, upd_same, by rw [upd_ne ne, upd_same], w1.sub.free nx, w1.sub.free nd, by rw [minus_new nx nd]; exact w1.sub, r1, hm a 0 _ _ hp fun b hb F' H' xx r => ?_⟩
    rw [minus_new nx nd] at xx
    exact ⟨rfl, q _ F' H' (x1.trans (w1.call xx).1) (w1.call xx).2 (hd hb r)⟩)
/-- C(..), the class a local name holds -/
def tMakeV (i : Nat) (C : Addr) (sp : Sp) (dvs : List V) (E : XK) (t : TA) : TE := fun σ H Q => σ[i]? = some (some (.ref C)) ∧ tMake C sp dvs E t σ H Q
theorem pe_makeV {X : Cx} {k i : Nat} {sp : Sp} {x : Str} {x' : Str} {dvs : List V} {p pos : Pos} {e : Expr} {es : List Expr} {t : TA} (G : GM X.prog X.w X.K X.mg X.base x' C k dvs sp) (hr : Room (k + 1) X.A) (hN : X.N[i]? = some x) (hv : Vis X.env.scope x) (ha : PA X (e :: es) t)
    (hd : (x == ("__debug__" : Str)) = false := by decide) (hcd : (x == ("__classdict__" : Str)) = false := by decide)
    (he : starEach (e :: es) X.env = (false, eval e X.env) :: starEach es X.env := by rfl) (hpl : (backTo pos (starEach es X.env)).any (·.1) = false := by rfl) : PE X (.Call (.Name x p) (e :: es) [] pos) (tMakeV i C sp dvs E0 t) := by
  obtain ⟨f, fd, ps, ds, h1, M, h3, h4, h5⟩ := G.ex
  refine ⟨fun pins s σ H Q I h => ?_⟩
  obtain ⟨hs, h⟩ := h
  refine wpAny_Call_Name_kw (thn ((pe_var (pos := p) (i := i) hN hv hd hcd).run pins s σ H (fun v H1 => v = .ref C ∧ H1 = H) I ⟨.ref C, hs, rfl, rfl⟩) fun u s1 ⟨v, H1, I1, r1, ev, eH⟩ => ?_)
  subst ev
  rw [eH] at I1
  cases r1
  refine PySem.W.callWith_K (h₀ := X.base) I.ok.mod.kin M.kp (thn (ha.run pos pins s1 σ H _ I1 h) fun us s2 ⟨vs, H2, I2, r, q⟩ => ⟨I2.kIn, ?_⟩) he hpl
  exact run_make M h5 hr h3 h4 pass0 I2 r q
theorem e_makeV {i : Nat} {g : Γ → Unit} {sp : Sp} {dvs : List V} {ta : TA} {m : Γ → M β} (hi : GetS E i (sVal (rCls C)) g) (h : SE md0 E Rb (tMake C sp dvs E0 ta) m) : SE md0 E Rb (tMakeV i C sp dvs E0 ta) m := fun k F H σ ρ c Q w e q => by
  obtain ⟨o, h1, v, rfl, r⟩ := hi.get e.r
  exact ⟨by rw [h1, r], h k F H σ ρ c Q w e q⟩
/-- o.f, a property -/
theorem e_prop {te : TE} {mo : Γ → M α} {m : α × Unit → M β} (hs : SlR1 Ro C) (h : SE md0 E Ro te mo) : SE md0 E Rb (tPropSl C (spOf (a1 Ro) Rb m) E0 te) fun ρ => (mo ρ).bind fun a => (m (a, ())).still := fun k F H σ ρ c Q w e q =>
  h k F H σ ρ c _ w e (wp_imp q fun a c1 q v F1 H1 x1 w1 r1 => by
    obtain ⟨p, dx, vs, ev, sl⟩ := hs.at_ r1
    subst ev
    exact ⟨p, dx, vs, rfl, slt_same w1.sub sl, F1, (a, ()), w1.sub, ⟨_, [], rfl, r1, rfl⟩, (m (a, ())).mono 0 (fun b _ z u F' H' x r => z u F' H' (x1.trans (w1.call x).1) (w1.call x).2 r) (fun _ z => XP.no w1 z) q⟩)
/-- o.m(..) -/
theorem e_meth {S : RA β} {te : TE} {t : TA} {mo : Γ → M α} {mb : Γ → M β} {m : α × β → M γ} (hs : SlR1 Ro C) (h : SE md0 E Ro te mo) (hb : SA md0 E S t mb) : SE md0 E R (tMethSl C (spOf (aCons Ro S) R m) E0 te t) fun ρ => (mo ρ).bind fun a => (mb ρ).bind fun b => (m (a, b)).still := fun k F H σ ρ c Q w e q =>
  h k F H σ ρ c _ w e (wp_imp q fun a c1 q v F1 H1 x1 w1 r1 => by
    obtain ⟨p, dx, vs, ev, sl⟩ := hs.at_ r1
    subst ev
    exact ⟨p, dx, vs, rfl, slt_same w1.sub sl, hb k F1 H1 σ ρ c1 _ w1 (e.step x1) (wp_imp q fun b c2 q ws F2 H2 x2 w2 r2 =>
      ⟨F2, (a, b), w2.sub, ⟨_, ws, rfl, Ro.st x2.fz r1, r2⟩, (m (a, b)).mono 0 (fun b _ z u F' H' x r => z u F' H' ((x1.trans x2).trans (w2.call x).1) (w2.call x).2 r) (fun _ z => XP.no w2 z) q⟩)⟩)
/-- y in o -/
theorem o_inN {m : α × β × Unit → M Bool} (hs : SlR1 Ro C) : OpS md0 (rInOwn C (spOf (a2 Ro Rb) rBl m)) Rb Ro rBl fun y o => (m (o, y, ())).still := fun k F H c y x b a Q w hy hx q => by
  obtain ⟨p, dx, vs, ev, sl⟩ := hs.at_ hx
  subst ev
  exact ⟨p, dx, vs, rfl, slt_same w.sub sl, F, (a, b, ()), w.sub, ⟨_, _, rfl, hx, _, _, rfl, hy, rfl⟩, (m (a, b, ())).mono 0 (fun b _ z u F' H' x r => by
    have r' : u = .bl b := r
    subst r'
    exact ⟨b, rfl, z _ F' H' (w.call x).1 (w.call x).2 rfl⟩) (fun _ z => XP.no w z) q⟩
theorem o_notInN {m : α × β × Unit → M Bool} (hs : SlR1 Ro C) : OpS md0 (rNotInOwn C (spOf (a2 Ro Rb) rBl m)) Rb Ro rBl fun y o => ((m (o, y, ())).still).bind fun b => .ret (!b) := fun k F H c y x b a Q w hy hx q => by
  obtain ⟨p, dx, vs, ev, sl⟩ := hs.at_ hx
  subst ev
  exact ⟨p, dx, vs, rfl, slt_same w.sub sl, F, (a, b, ()), w.sub, ⟨_, _, rfl, hx, _, _, rfl, hy, rfl⟩, (m (a, b, ())).mono 0 (fun b _ z u F' H' x r => by
    have r' : u = .bl b := r
    subst r'
    exact ⟨b, rfl, z _ F' H' (w.call x).1 (w.call x).2 rfl⟩) (fun _ z => XP.no w z) q⟩
/-! what may be no instance -/
def rOr (K : PySem.W.Frag) (C : Addr) (Ro : Rp α) : Rp (Option α) :=
  ⟨fun F v a => (∃ x, a = some x ∧ Ro.r F v x) ∨ (a = none ∧ ∃ t, (∀ H, Same F H → TyY K H v t) ∧ PySem.W.kitOne K t (.ref C) = some false ∧ PySem.W.notFirst K C t = true),
    fun s h => h.imp (fun ⟨x, e, r⟩ => ⟨x, e, Ro.st s r⟩) fun ⟨e, t, h, k⟩ => ⟨e, t, fun H s' => h H (s.trans s'), k⟩⟩
theorem coe_or {F : Hp} {v : V} {a : α} (h : Ro.r F v a) : (rOr K C Ro).r F v (some a) := .inl ⟨a, rfl, h⟩
theorem or_get {F : Hp} {v : V} {a : Option α} {b : α} (h : (rOr K C Ro).r F v a) (e : a = some b) : Ro.r F v b := by
  rcases h with ⟨x, h1, h2⟩ | ⟨h1, _⟩
  · rw [h1] at e; cases e; exact h2
  · rw [h1] at e; cases e
/-- Python's own types are none of the class's -/
structure OdT (K : PySem.W.Frag) (C : Addr) : Prop where
  k : ∀ t ∈ (["int", "bool", "str", "NoneType", "list", "tuple", "dict"] : List String), PySem.W.kitOne K (.type t) (.ref C) = some false ∧ PySem.W.notFirst K C (.type t) = true
theorem coe_odd {t : String} (O : OdT K C) (ht : TyR K Rb (.type t)) (hm : t ∈ (["int", "bool", "str", "NoneType", "list", "tuple", "dict"] : List String)) {F : Hp} {v : V} {a : β} (h : Rb.r F v a) : (rOr K C Ro).r F v none :=
  .inr ⟨rfl, .type t, fun H s => ht.ty s h, O.k t hm⟩
theorem tr_non : TyR K rNon (.type "NoneType") := ⟨fun _ h => by cases (show _ = V.non from h); exact .x (.base .non)⟩
theorem tr_tx {S : RA α} : TyR K (rTx K S) (.type "tuple") := ⟨fun s ⟨p, vs, e, h, _⟩ => by
  subst e
  rcases same_seqT s h with (h | ⟨o, h⟩) | ⟨o, its, n, h, c, _⟩
  · exact .x (.base (.tup h))
  · exact .x (.fTuple h)
  · exact .x (.kTuple h c)⟩
theorem tr_slt (c : SCls K C) (i : SIsi K C) (hs : SlR1 Ro C) : TyR K Ro (.ref C) := ⟨fun s h => by
  obtain ⟨p, dx, vs, ev, sl⟩ := hs.at_ h
  subst ev
  exact .slt (slt_same s sl) c i⟩
theorem or_ty (hr : TyR K Ro (.ref C)) {F H : Hp} {v : V} {a : Option α} (s : Same F H) (h : (rOr K C Ro).r F v a) : ∃ t, TyY K H v t ∧ PySem.W.notFirst K C t = true := by
  rcases h with ⟨x, h1, h2⟩ | ⟨h1, t, h2, _, h3⟩
  · exact ⟨.ref C, hr.ty s h2, by unfold PySem.W.notFirst; simp⟩
  · exact ⟨t, h2 H s, h3⟩
/-- isinstance(x, C) -/
theorem c_isiOr (hr : TyR K Ro (.ref C)) (h1 : PySem.W.kitOne K (.ref C) (.ref C) = some true) : CaS md0 (rIsiU K) (a2 (rOr K C Ro) (rCls C)) rBl fun a => .ret a.1.isSome := fun k F H c vs a Q w r q => by
  obtain ⟨v, x, e, r1, r2⟩ := two r
  have r2' : x = .ref C := r2
  subst r2'
  rcases r1 with ⟨y, e1, r1⟩ | ⟨e1, t, r1, r3, _⟩
  · exact ⟨v, _, .ref C, .ref C, true, e, .own C, hr.ty w.sub r1, h1, VP.now w q (by rw [e1]; rfl)⟩
  · exact ⟨v, _, t, .ref C, false, e, .own C, r1 H w.sub, r3, VP.now w q (by rw [e1]; rfl)⟩
/-- x == y, x != y -/
theorem o_eqN {m : α × Option α × Unit → M Bool} (hs : SlR1 Ro C) (hr : TyR K Ro (.ref C)) : OpS md0 (rCmpS K C false (spOf (a2 Ro (rOr K C Ro)) rBl m) E0) Ro (rOr K C Ro) rBl fun a b => (m (a, b, ())).still := fun k F H c x y a b Q w hx hy q => by
  obtain ⟨p, dx, vs, ev, sl⟩ := hs.at_ hx
  subst ev
  obtain ⟨t, h1, h2⟩ := or_ty hr w.sub hy
  exact ⟨p, dx, vs, t, rfl, slt_same w.sub sl, h1, h2, F, (a, b, ()), w.sub, ⟨_, _, rfl, hx, _, _, rfl, hy, rfl⟩, (m (a, b, ())).mono 0 (fun b _ z u F' H' x r => by
    have r' : u = .bl b := r
    subst r'
    exact ⟨b, rfl, z _ F' H' (w.call x).1 (w.call x).2 rfl⟩) (fun _ z => XP.no w z) q⟩
theorem o_neN {m : α × Option α × Unit → M Bool} (hs : SlR1 Ro C) (hr : TyR K Ro (.ref C)) : OpS md0 (rCmpS K C true (spOf (a2 Ro (rOr K C Ro)) rBl m) E0) Ro (rOr K C Ro) rBl fun a b => ((m (a, b, ())).still).bind fun b => .ret (!b) := fun k F H c x y a b Q w hx hy q => by
  obtain ⟨p, dx, vs, ev, sl⟩ := hs.at_ hx
  subst ev
  obtain ⟨t, h1, h2⟩ := or_ty hr w.sub hy
  exact ⟨p, dx, vs, t, rfl, slt_same w.sub sl, h1, h2, F, (a, b, ()), w.sub, ⟨_, _, rfl, hx, _, _, rfl, hy, rfl⟩, (m (a, b, ())).mono 0 (fun b _ z u F' H' x r => by
    have r' : u = .bl b := r
    subst r'
    exact ⟨b, rfl, z _ F' H' (w.call x).1 (w.call x).2 rfl⟩) (fun _ z => XP.no w z) q⟩
/-- str(o), len(o) -/
theorem c_strN {m : α × Unit → M Str} (hs : SlR1 Ro C) : CaS md0 (rStrOwn C (spOf (a1 Ro) rStr m)) (a1 Ro) rStr fun a => (m (a.1, ())).still := fun k F H c vs a Q w r q => by
  obtain ⟨v, e, r⟩ := one r
  obtain ⟨p, dx, ws, ev, sl⟩ := hs.at_ r
  subst ev
  exact ⟨p, dx, ws, e, slt_same w.sub sl, F, (a.1, ()), w.sub, ⟨_, _, rfl, r, rfl⟩, (m (a.1, ())).mono 0 (fun b _ z u F' H' x r => by
    have r' : u = .str b := r
    subst r'
    exact ⟨b, rfl, z _ F' H' (w.call x).1 (w.call x).2 rfl⟩) (fun _ z => XP.no w z) q⟩
theorem c_lenN {m : α × Unit → M Int} (hs : SlR1 Ro C) : CaS md0 (rLenOwn C (spOf (a1 Ro) rInt m)) (a1 Ro) rInt fun a => ((m (a.1, ())).still).bind fun i => .need (0 ≤ i ∧ i < 2 ^ 62) (.ret i) := fun k F H c vs a Q w r q => by
  obtain ⟨v, e, r⟩ := one r
  obtain ⟨p, dx, ws, ev, sl⟩ := hs.at_ r
  subst ev
  exact ⟨p, dx, ws, e, slt_same w.sub sl, F, (a.1, ()), w.sub, ⟨_, _, rfl, r, rfl⟩, (m (a.1, ())).mono 0 (fun b _ z u F' H' x r => by
    have r' : u = .int b := r
    subst r'
    exact ⟨b, rfl, z.1.1, z.1.2, z.2 _ F' H' (w.call x).1 (w.call x).2 rfl⟩) (fun _ z => XP.no w z) q⟩
end
/-! ### classmethods -/
structure GCm (P : Program) (w : World) (K : PySem.W.Frag) (mg : Str → Option Value) (base : Heap) (C : Addr) (m : Str) (k : Nat) (sp : Sp) : Prop where
  ex : ∃ mc p g, ClX.CRead K C mc ∧ ClX.CMet K C mc m p g ∧ FnR P w K mg base CX0 k g sp
section
variable {X : Cx} {C : Addr} {m : Str} {k : Nat} {sp : Sp} {o e : Expr} {es : List Expr} {ta : TE} {t : TA} {pos apos : Pos} {pl : Sem Bool}
theorem pe_cm (G : GCm X.prog X.w X.K X.mg X.base C m k sp) (hr : Room k X.A) (he : PE X o ta) (ha : PA X (e :: es) t)
    (hst : starEach (e :: es) X.env = (false, eval e X.env) :: starEach es X.env := by rfl) (hpl : (backTo pos (starEach es X.env)).any (·.1) = false := by rfl)
    (ht : eval (.Call (.Attribute o m apos) (e :: es) [] pos) X.env = (do
      let ov ← eval o X.env
      standAt apos.atName
      let (f, first) ← holding [ov] (getMethod ov m pl)
      callWith pos f first (backTo pos (starEach (e :: es) X.env)) (backToKw pos (keywordEach [] X.env))) := by rfl) : PE X (.Call (.Attribute o m apos) (e :: es) [] pos) (ClX.tCMeth C sp E0 ta t) := by
  obtain ⟨mc, p, g, h1, h2, h3⟩ := G.ex
  exact ClX.pe_cmeth he h1 h2 h3 hr pass0 ha hst hpl ht
end
section
variable {Γ α β : Type} {E : EV Γ} {C : Addr} {R : Rp α}
theorem e_cm {S : RA β} {t : TA} {mb : Γ → M β} {m : Unit × β → M α} (hb : SA md0 E S t mb) : SE md0 E R (ClX.tCMeth C (spOf (aCons (rCls C) S) R m) E0 (tC (.ref C)) t) fun ρ => (mb ρ).bind fun b => (m ((), b)).still := fun k F H σ ρ c Q w e q =>
  ⟨rfl, hb k F H σ ρ c _ w e (wp_imp q fun b c2 q ws F2 H2 x2 w2 r2 =>
      ⟨F2, ((), b), w2.sub, ⟨_, ws, rfl, rfl, r2⟩, (m ((), b)).mono 0 (fun b _ z u F' H' x r => z u F' H' (x2.trans (w2.call x).1) (w2.call x).2 r) (fun _ z => XP.no w2 z) q⟩)⟩
end
end PF

set_option Elab.async false
set_option linter.all false
set_option maxRecDepth 100000
set_option maxHeartbeats 1000000
namespace PF
open PySem PySem.Spec PyProof.Rows L2 SlX
section
variable {X : Cx}
/-- name = {k: v for ..} on one line, the name a local; the dict is locked from then on -/
theorem ps_setDc {i : Nat} {y : Str} {py : Pos} {kx vx tg iter : Expr} {ifs : List Expr} {scope : Scope} {own : List (Str × Nat)} {pos spos : Pos} {wi : TI} {g : TG} {tt : TT} {tk tv : TE} (hc : X.calm = true) (hN : X.N.Nodup) (hy : X.N[i]? = some y) (hyl : X.env.scope.names.lookup y = some .local)
    (hsw : swapsWith (.DictComp kx vx [⟨tg, iter, ifs, 0⟩] scope pos) (some (.Name y py)) spos.line X.env = pure true) (hi : PI X tg iter wi) (ok : BlkOk X.N X.env.scope scope own)
    (hg : ∀ (s : Shared) (H : Hp) (C : Addr) (cl : List (Str × Addr)) (fp : List Addr), PG (X.blk s H scope (compEnvC scope cl C X.env) fp) tg g) (ht : ∀ (s : Shared) (H : Hp) (C : Addr) (cl : List (Str × Addr)) (fp : List Addr), PTs (X.blk s H scope (compEnvC scope cl C X.env) fp) ifs tt)
    (hk : ∀ (s : Shared) (H : Hp) (C : Addr) (cl : List (Str × Addr)) (fp : List Addr), PE (X.blk s H scope (compEnvC scope cl C X.env) fp) kx tk)
    (he : ∀ (s : Shared) (H : Hp) (C : Addr) (cl : List (Str × Addr)) (fp : List Addr), PE (X.blk s H scope (compEnvC scope cl C X.env) fp) vx tv) (hs : ∀ x, foldedSetIterable iter X.env x = pure x := by intro _; rfl) :
    PS X (.Assign [.Name y py] (.DictComp kx vx [⟨tg, iter, ifs, 0⟩] scope pos) spos) (tAsg (tLk (tDc wi g tt tk tv (own.map (·.2)))) (gName i)) := by
  refine ⟨fun pins s σ H D I h => ?_⟩
  rw [exec_Assign_Name_used _ _ _ _ hsw]
  refine wpAny_bind (wpAny_standAt (wpAny_bind ?_))
  show wpAny _ X.A (do let _ ← comprehension (.DictComp kx vx [⟨tg, iter, ifs, 0⟩] scope pos) scope X.env (firstIterPos [⟨tg, iter, ifs, 0⟩] pos) newDict false (eval iter X.env) (some (assign (.Name y py) X.env))) _ _ s
  have h : tDc wi g tt tk tv (own.map (·.2)) σ H (fun v H1 => ∃ d u, v = .ref d ∧ H1 d = some u ∧ Mut (some u) ∧ ∀ od, gName i v σ (upd H1 d (.frz od u)) D.nx) := h
  refine wpAny_bind (thn (dc_core (Qf := fun _ s' => L2.SP X pins D .next s') hc hN I hi ok hg ht hk he hs h fun L C s' m H' I0 q hn f => ?_) fun _ s' hq => wpAny_pure (wpAny_pure hq))
  obtain ⟨d, u, ed, hd, mu, q⟩ := q
  cases ed
  obtain ⟨od, I'⟩ := I0.lock hd mu
  replace q := q od
  show wpAny _ _ (assign (.Name y py) X.env (.ref L)) _ _ _
  refine wpAny_assign_Name (store_ok2 (v := V.ref L) I' hN hy (.inl hyl) rfl (fun s2 I2 ⟨a, sb, ha⟩ => ?_) (.inr hyl))
  obtain ⟨f0, f1, f2, f3, f4, f5⟩ := f
  have f0' : upd H' L (.frz od u) C = none := by rw [upd_ne (fun z => by rw [z, hd] at f0; cases f0)]; exact f0
  have haC : C ≠ a := by
    rcases ha with z | z
    · rw [z]; exact f1
    · exact fun e => f4 y a z e.symm
  refine ⟨m, hn.sameBut sb haC, fun h3 sb3 => ?_⟩
  exact ⟨_, _, I2.turned (t' := s2.toks) (fun b o hb e => (sb3.2 b hb).trans e) f0' f1 f3 f4 f5, q⟩
theorem sw_trueD {kx vx : Expr} {gs : List Comprehension} {scope : Scope} {pos py : Pos} {y : Str} {l : Nat} {env : Env} (hk : env.scope.kind = .function) (hy : env.scope.names.lookup y = some .local) (hl : (py.line == pos.line) = true)
    (ha : (scope.names.any fun (n, k) => n == y && (k == .local || k == .cell)) = false) : swapsWith (.DictComp kx vx gs scope pos) (some (.Name y py)) l env = pure true := by
  have ky : env.kindOf y = some .local := hy
  have hb : env.blockKind = .function := by unfold Env.blockKind; rw [hk]; rfl
  unfold swapsWith
  simp only [hb, ky, ha, Expr.pos, hl]
  rfl
theorem pe_me0 {C : Addr} {m : Str} {k : Nat} {sp : Sp} {o : Expr} {ta : TE} {pos apos : Pos} {pl : Sem Bool} (c : SCls X.K C) (G : GMe X.prog X.w X.K X.mg X.base C m k sp) (hr : Room k X.A) (he : PE X o ta)
    (ht : eval (.Call (.Attribute o m apos) [] [] pos) X.env = (do
      let ov ← eval o X.env
      standAt apos.atName
      let (f, first) ← holding [ov] (getMethod ov m pl)
      callWith pos f first (backTo pos (starEach [] X.env)) (backToKw pos (keywordEach [] X.env))) := by rfl) : PE X (.Call (.Attribute o m apos) [] [] pos) (tMethSl C sp E0 ta tNil) := by
  obtain ⟨g, h1, h2⟩ := G.ex
  exact pe_methSl0 he c h1 h2 hr pass0 ht
end
/-! ### a text, or what is none -/
def rSx (K : PySem.W.Frag) : Rp (Option Str) :=
  ⟨fun F v a => (∃ x, a = some x ∧ v = .str x) ∨ (a = none ∧ ∃ t, (∀ H, Same F H → TyY K H v t) ∧ PySem.W.kitOne K t (.type "str") = some false), fun s h => h.imp id fun ⟨e, t, h, k⟩ => ⟨e, t, fun H s' => h H (s.trans s'), k⟩⟩
/-- a built-in class, as a value -/
def rTyV (t : String) : Rp Unit := ⟨fun _ v _ => v = .ty t, fun _ h => h⟩
theorem e_tyV {Γ : Type} {μ : Md} {E : EV Γ} {t : String} : SE μ E (rTyV t) (tC (.ty t)) fun _ => .ret () := e_c fun _ => rfl
theorem e_clsV {Γ : Type} {μ : Md} {E : EV Γ} {C : Addr} : SE μ E (rCls C) (tC (.ref C)) fun _ => .ret () := e_c fun _ => rfl
section
variable {α β γ : Type} {K : PySem.W.Frag} {Ra : Rp α} {Rb : Rp β}
theorem sx_some {F : Hp} {v : V} {a : Str} (h : rStr.r F v a) : (rSx K).r F v (some a) := .inl ⟨a, rfl, h⟩
theorem sx_none {t : String} (ht : TyR K Rb (.type t)) (hk : PySem.W.kitOne K (.type t) (.type "str") = some false) {F : Hp} {v : V} {a : β} (h : Rb.r F v a) : (rSx K).r F v none := .inr ⟨rfl, .type t, fun H s => ht.ty s h, hk⟩
theorem sx_get {F : Hp} {v : V} {a : Option Str} {b : Str} (h : (rSx K).r F v a) (e : a = some b) : rStr.r F v b := by
  rcases h with ⟨x, h1, h2⟩ | ⟨h1, _⟩
  · rw [h1] at e; cases e; exact h2
  · rw [h1] at e; cases e
theorem c_isiSx : CaS md0 (rIsiU K) (a2 (rSx K) (rTyV "str")) rBl fun a => .ret a.1.isSome := fun k F H c vs a Q w r q => by
  obtain ⟨v, x, e, r1, r2⟩ := two r
  have r2' : x = .ty "str" := r2
  subst r2'
  rcases r1 with ⟨y, e1, r1⟩ | ⟨e1, t, r1, r3⟩
  · exact ⟨v, _, .type "str", _, true, e, .ty _, by rw [r1]; exact .x (.base (.str _)), kit_ty (by decide +kernel), VP.now w q (by rw [e1]; rfl)⟩
  · exact ⟨v, _, t, _, false, e, .ty _, r1 H w.sub, r3, VP.now w q (by rw [e1]; rfl)⟩
/-- isinstance(x, t), a built-in class, the answer known -/
theorem c_isiT {t : Value} {u : String} {b : Bool} (ht : TyR K Ra t) (hk : PySem.W.kitOne K t (.type u) = some b) : CaS md0 (rIsiU K) (a2 Ra (rTyV u)) rBl fun _ => .ret b := c_isi ht (.ty u) hk fun h => h
theorem tr_dct {κ : Type} {kf : κ → Key} : TyR K (rDct kf Ra) (.type "dict") := ⟨fun s ⟨p, kvs, o, e, h, _⟩ => by subst e; exact .x (.fDict (s _ _ h))⟩
theorem spOfI_len {Λ : Type} {C : Addr} {S : RA α} {Ro : Rp Λ} {m : α → M Λ} {vs : List V} {H : Hp} {Q : VK} {X : XK} (h : spOfI C S Ro m vs H Q X) : vs.length = S.n + 1 := by
  obtain ⟨F, D, dx, ws, a, rfl, _, _, _, _, _, _, r, _⟩ := h
  rw [List.length_cons, S.len r]
end
end PF

set_option Elab.async false
set_option linter.all false
set_option maxRecDepth 100000
set_option maxHeartbeats 1000000
namespace PF
open PySem PySem.Spec PyProof.Rows L2 SlX
theorem hu_of0 {A : Around} {k : Nat} (hr : Room k A) : A.units < cLine := Nat.lt_of_succ_lt (hu_of hr)
theorem hu65 {A : Around} {k : Nat} (hr : Room k A) : A.units + 65 < cLine := by have := hr.un; omega
/-- what is never reached -/
theorem s_never {Γ Γ' Δ β : Type} {μ : Md} {E : EV Γ} {E' : EV Γ'} {El : EV Δ} {R : Rp β} {t : TS} : SS μ E E' El R t fun _ => M.none := fun k F H σ ρ c D w e h => h.elim
/-- an empty dict -/
def rD0 : Rp Unit := ⟨fun F v _ => ∃ p, v = .ref p ∧ F p = some (.dK []), fun s ⟨p, e, h⟩ => ⟨p, e, s _ _ h⟩⟩
section
variable {Γ α β γ : Type} {μ : Md} {E : EV Γ} {K : PySem.W.Frag} {Ra : Rp α} {Rb : Rp β}
theorem e_dnew : SE μ E rD0 (fun σ H Q => ∀ d, H d = none → Q (.ref d) (upd H d (.dK []))) fun _ => .ret () := fun k F H σ ρ c Q w e q => fun d n => VP.newT w q n fun _ => ⟨d, rfl, upd_same⟩
theorem tr_d0 : TyR K rD0 (.type "dict") := ⟨fun s ⟨p, e, h⟩ => by subst e; exact .x (.base (.dK (s _ _ h)))⟩
/-- xs * k -/
theorem all2_rep {f : V → α → Prop} {vs : List V} {xs : List α} (h : All2 f vs xs) : ∀ n : Nat, All2 f (List.replicate n vs).flatten (List.replicate n xs).flatten
  | 0 => .nil
  | n + 1 => by
    rw [List.replicate_succ, List.replicate_succ, List.flatten_cons, List.flatten_cons]
    exact h.append (all2_rep h n)
theorem o_rep : OpN μ rRep (rLs Ra) rInt Ra fun xs k => .need (-(2 ^ 63) ≤ k ∧ k < 2 ^ 63 ∧ xs.length * k.toNat ≤ sizeLine) (.ret (List.replicate k.toNat xs).flatten) := fun k F H c x y xs n Q w ⟨p, vs, e, hp, al⟩ hy ⟨⟨q1, q2, q3⟩, q⟩ =>
  ⟨p, n, vs, e, hy, w.sub _ _ hp, q1, q2, by rw [al.len]; exact q3, fun l nl => VN.newL w q nl (all2_rep al _)⟩
end
end PF

set_option Elab.async false
set_option linter.all false
set_option maxRecDepth 100000
set_option maxHeartbeats 1000000
namespace PF
open PySem PySem.Spec PyProof.Rows L2 SlX
/-! ### tuples of instances with slots, == that gives True -/
def DSlt {α : Type} (Ro : Rp α) (Pv : α → Prop) : Eqv := fun x y H => ∃ F o, Pv o ∧ Same F H ∧ Ro.r F x o ∧ Ro.r F y o
theorem mon_slt {α : Type} {Ro : Rp α} {Pv : α → Prop} : Mon (DSlt Ro Pv) := fun x y H H' e ⟨F, o, pv, s, h, k⟩ => ⟨F, o, pv, fun b u q => e b u (s b u q), h, k⟩
section
variable {X : Cx} {C : Addr} {n : Nat} {α : Type} {Ro : Rp α} {Pv : α → Prop} {m : α × Option α × Unit → M Bool}
theorem rcG_slt (hs : SlR1 Ro C) (G : GE X.prog X.w X.K X.mg X.base C n (spOf (a2 Ro (rOr X.K C Ro)) rBl m)) (hm : ∀ o (_ : Pv o) (Q : Bool → Nat → Prop) (Y : Er → Prop), Q true 0 → (m (o, some o, ())).wp 0 Q Y) : RcG X n (DSlt Ro Pv) := by
  intro A pins s σ H x y u v sb I rx ry d
  obtain ⟨F, o, pv, sF, h1, h2⟩ := d
  obtain ⟨a, dx, vs, e1, sl1⟩ := hs.at_ h1
  obtain ⟨b, dy, ws, e2, sl2⟩ := hs.at_ h2
  subst e1 e2
  cases rx
  cases ry
  obtain ⟨g, k1, k2, k3⟩ := G.ex
  obtain ⟨_, _, _, J, _⟩ := slt_inst I (slt_same sF sl1)
  obtain ⟨_, _, _, J', _⟩ := slt_inst I (slt_same sF sl2)
  obtain ⟨mm, hF⟩ := I.fr
  refine PySem.W.cmp_K (op := .Eq) (tb := .ref C) sb.room.units0 hF I.ok.mod.kin J J'.type (by simp [PySem.W.notFirst]) k1 k2 ?_
  have e0 : Env0 X.prog X.w X.K X.mg X.base A X.stack s H := by
    have e := I.env0
    exact ⟨by rw [sb.fr]; exact e.frames, e.mod, e.bs, e.bsz, e.funs, e.frf, e.hok, e.bare⟩
  have hsp : spOf (a2 Ro (rOr X.K C Ro)) rBl m [.ref a, .ref b] H (fun z H' => z = .bl true ∧ Ext H H') E0 :=
    ⟨F, (o, some o, ()), sF, ⟨_, _, rfl, h1, _, _, rfl, coe_or h2, rfl⟩, hm o pv _ _ fun v F' H' xx r => ⟨r, fun c u q => xx.hp c u (fun z => nomatch z) q⟩⟩
  refine wpAny_mono (wpAny_call (run_at (A := A) (us := [.ref a, .ref b]) (ws := [.ref a, .ref b]) k3 sb.room e0 pass0 I (.cons rfl (.cons rfl .nil)) hsp)) (fun r s' q => ?_) fun _ _ x => x
  obtain ⟨z, H', I', rz, ez, ex⟩ := q
  subst ez
  cases rz
  exact ⟨rfl, H', I', ex⟩
theorem op_eqTN (hs : SlR1 Ro C) (G : GE X.prog X.w X.K X.mg X.base C n (spOf (a2 Ro (rOr X.K C Ro)) rBl m)) (hm : ∀ o (_ : Pv o) (Q : Bool → Nat → Prop) (Y : Er → Prop), Q true 0 → (m (o, some o, ())).wp 0 Q Y) (hr : Room (n + 1) X.A) : OpR X (compareOp .Eq) (rEqG (DTup X.K (DSlt Ro Pv))) :=
  op_eqG (rcG_tup mon_slt ((rcG_slt hs G hm).eqG fun _ _ _ ⟨F, o, _, s, h, k⟩ => by
    obtain ⟨a, dx, vs, e1, _⟩ := hs.at_ h
    obtain ⟨b, dy, ws, e2, _⟩ := hs.at_ k
    exact ⟨a, b, e1, e2⟩)) hr
end
theorem o_eqTN {α : Type} {Ro : Rp α} {Pv : α → Prop} {K : PySem.W.Frag} {μ : Md} : OpS μ (rEqG (DTup K (DSlt Ro Pv))) (rTup K Ro) (rTup K Ro) rBl fun xs ys => .need (xs = ys ∧ ∀ o ∈ xs, Pv o) (.ret true) := fun k F H c x y xs ys Q w ⟨p, vs, e, hp, al⟩ ⟨p2, vs2, e2, hp2, al2⟩ ⟨⟨eq, pv⟩, q⟩ => by
  subst eq
  refine ⟨⟨p, p2, vs, vs2, e, e2, same_seqT w.sub hp, same_seqT w.sub hp2, by rw [al.len, al2.len], fun i x y h1 h2 => ?_⟩, fun H' ex => ?_⟩
  · have hi : i < xs.length := by rw [← al.len]; exact (List.getElem?_eq_some_iff.mp h1).1
    obtain ⟨u, hu, ru⟩ := al.get (List.getElem?_eq_getElem hi)
    obtain ⟨v, hv, rv⟩ := al2.get (List.getElem?_eq_getElem hi)
    rw [h1] at hu
    rw [h2] at hv
    cases hu
    cases hv
    exact ⟨F, _, pv _ (List.getElem_mem hi), w.sub, ru, rv⟩
  · have xx : ExtX none F H F H' := ExtX.same w.sub ex
    exact q _ F H' (w.call xx).1 (w.call xx).2 rfl
/-! ### dict(zip(xs, ys)), two lists -/
def tDZip (K : PySem.W.Frag) (ta : TA) : TE := fun σ H Q => ta σ H fun vs H1 => ∃ (a b : Addr) (ks : List Key) (ys : List V), vs = [.ref a, .ref b] ∧ SqL K H1 a (ks.map kV) ∧ SqL K H1 b ys ∧ ks.length = ys.length ∧ ∀ p, H1 p = none → Q (.ref p) (upd H1 p (.dK (mergeK [] (ks.zip ys))))
theorem kv_zip : ∀ {ks : List Key} {ys : List V} {us : List Value}, Vals ys us → KV (ks.zip ys) (ks.zip us)
  | [], _, _, _ => by simp; exact .nil
  | k :: ks, _, _, .nil => by simp; exact .nil
  | k :: ks, _, _, .cons h t => by
    rw [List.zip_cons_cons, List.zip_cons_cons]
    exact .cons ⟨rfl, h⟩ (kv_zip t)
section
variable {X : Cx} {e e2 : Expr} {ta : TA} {p pos p2 pos2 : Pos}
theorem pe_dzip (hc : X.calm = true) (hgd : Gl X "dict") (hmd : X.mg "dict" = none) (hg : Gl X "zip") (hm : X.mg "zip" = none) (ha : PA X [e, e2] ta)
    (na : starEach [.Call (.Name "zip" p) [e, e2] [] pos] X.env = (false, eval (.Call (.Name "zip" p) [e, e2] [] pos) X.env) :: starEach [] X.env := by rfl)
    (hs : starEach [e, e2] X.env = (false, eval e X.env) :: starEach [e2] X.env := by rfl) (hpl : (backTo pos (starEach [e2] X.env)).any (·.1) = false := by rfl) :
    PE X (.Call (.Name "dict" p2) [.Call (.Name "zip" p) [e, e2] [] pos] [] pos2) (tDZip X.K ta) := by
  refine ⟨fun pins s σ H Q I h => ?_⟩
  refine Call_ (ld_blt I hgd hmd PyProof.Rows.boot_dict ?_)
  refine PyProof.Rows.callWith_type1 (PyProof.Rows.args_cons (Call_ (ld_blt I hg hm PyProof.Rows.boot_zip (PyProof.Rows.callWith_type1 (thn (ha.run pos pins s σ H _ I h) fun us s1 ⟨vs, H1, I1, r1, q1⟩ => ?_) hs hpl))) na) na rfl
  obtain ⟨a, b, ks, ys, ex, hqx, hqy, hl, q⟩ := q1
  subst ex
  cases r1 with
  | cons r rr =>
    cases rr with
    | cons r' rr =>
      cases rr
      cases r
      cases r'
      obtain ⟨its, rv, p1, z1⟩ := I1.list hqx
      obtain ⟨its2, rv2, p2, z2⟩ := I1.list hqy
      have la : a < s1.heap.objs.size := p1.lt
      have lb : b < s1.heap.objs.size := p2.lt
      have hl1 : its.length = ks.length := by rw [← rv.length, List.length_map]
      have hl2 : its2.length = ks.length := by rw [← rv2.length, hl]
      refine call_zip_2 p1.isList p2.isList fun h' hz hTI hTO h1 h2 hsz hk => PyProof.Rows.args_nil ?_
      rw [List.length_map] at z1
      have lh : s1.heap.objs.size + 5 = h'.objs.size := hsz.symm
      refine PySem.call_dict_pairs (knd := mixKind X.prog X.w) (kvs := ks.zip its2) (PairArg.zip _ _ _ _ _ a b (PySem.W.ktu_apart s1.heap.objs.size a b la lb) its.toArray its2.toArray) (I.ok.hd hc)
        ⟨hz, hTI, ⟨_, _, hTO⟩, h1, h2, p1.isList.at fun o e => hk _ o e, p2.isList.at fun o e => hk _ o e⟩ ⟨by rw [List.length_zip, List.size_toArray, List.size_toArray]; omega, fun i k v ⟨g1, g2⟩ => ?_⟩ (by rw [List.size_toArray, List.size_toArray]; omega) fun h'' tk hd' hkk => ?_
      · rw [List.getElem?_toArray] at g1 g2
        have hi : i < ks.length := by rw [← hl1]; exact (List.getElem?_eq_some_iff.mp g1).1
        obtain ⟨u, hu, ru⟩ := rv.get (show (ks.map kV)[i]? = some (kV ks[i]) by rw [List.getElem?_map, List.getElem?_eq_getElem hi]; rfl)
        rw [g1] at hu
        cases hu
        exact ⟨ks[i], List.getElem?_zip_eq_some.mpr ⟨List.getElem?_eq_getElem hi, g2⟩, kV_is (P := X.prog) (w := X.w) ru⟩
      · have hm' : (h'.objs.size == sysModules) = false := beq_eq_false_iff_ne.mpr (Nat.ne_of_gt (Nat.lt_of_lt_of_le I1.big (by rw [← lh]; exact Nat.le_add_right _ _)))
        have hlen : (mergeK [] (ks.zip ys)).length ≤ sizeLine := by
          refine Nat.le_trans (length_mergeK _ []) ?_
          rw [List.length_nil, Nat.zero_add, List.length_zip]
          omega
        have keep : ∀ b o, s1.heap.get? b = some o → h''.get? b = some o := fun b o e => by
          refine hkk b o (fun hb => ?_) (hk b o e)
          have lt := Heap.lt_size e
          simp only [List.mem_cons, List.not_mem_nil, or_false] at hb
          rcases hb with z | z | z | z
          · exact absurd lt (by rw [z]; exact Nat.not_lt.mpr (Nat.le_add_right _ _))
          · exact absurd lt (by rw [z]; exact Nat.not_lt.mpr (Nat.le_add_right _ _))
          · exact absurd lt (by rw [z]; exact Nat.lt_irrefl _)
          · exact absurd lt (by rw [z]; exact Nat.not_lt.mpr (Nat.le_add_right _ _))
        exact ⟨.ref h'.objs.size, upd H1 h'.objs.size (.dK (mergeK [] (ks.zip ys))), I1.laid (t' := tk) keep (by rw [← lh]; exact Nat.le_add_right _ _) (show ObjOk X.prog X.w _ _ _ (.dK (mergeK [] (ks.zip ys))) from ⟨hlen, hm', merged [] (ks.zip its2), KV.merge (kv_zip rv2) .nil, hd'⟩), rfl, q _ (I1.hok.fresh (by rw [← lh]; exact Nat.le_add_right _ _))⟩
end
section
variable {Γ α β κ : Type} {μ : Md} {E : EV Γ} {Ra : Rp α} {Rb : Rp β} {Rk : Rp κ} {kf : κ → Key} {K : PySem.W.Frag} [DecidableEq κ]
theorem AllD.merge {f : V → α → Prop} (inj : ∀ {a b : κ}, kf a = kf b → a = b) {kvs ps : List (Key × V)} {l qs : List (κ × α)} (h : AllD kf f kvs l) (k : AllD kf f ps qs) : AllD kf f (mergeK kvs ps) (dmerge l qs) := by
  induction k generalizing kvs l with
  | nil => exact h
  | cons r _ ih => exact ih (h.put inj _ r)
theorem e_dzip {ta tb : TE} {ma : Γ → M (List κ)} {mb : Γ → M (List β)} (ky : KyR Rk kf) (ha : SE μ E (rLs Rk) ta ma) (hb : SE μ E (rLs Rb) tb mb) :
    SE μ E (rDct kf Rb) (tLk (tDZip K (tCons ta (tCons tb tNil)))) fun ρ => (ma ρ).bind fun xs => (mb ρ).bind fun ys => .need (xs.length = ys.length) (.ret (dmerge [] (xs.zip ys))) := fun k F H σ ρ c Q w e h =>
  ha k F H σ ρ c _ w e (wp_imp h fun xs c1 q v F1 H1 x1 w1 r1 => hb k F1 H1 σ ρ c1 _ w1 (e.step x1) (wp_imp q fun ys c2 ⟨hl, q⟩ u F2 H2 x2 w2 r2 => by
    obtain ⟨p, vs, ev, hp, al⟩ := r1
    obtain ⟨p2, vs2, ev2, hp2, al2⟩ := r2
    have ek : vs = (xs.map kf).map kV := by
      rw [List.map_map]
      exact al.to_map (kV ∘ kf) fun _ _ g => ky.v g
    refine ⟨p, p2, xs.map kf, vs2, by rw [ev, ev2], by rw [← ek]; exact .of (w2.sub _ _ (x2.fz _ _ hp)), .of (w2.sub _ _ hp2), by rw [List.length_map, hl, al2.len], fun d nd => ?_⟩
    refine ⟨d, _, rfl, upd_same, trivial, fun od => ?_⟩
    have n1 : H d = none := by
      cases z : H d with
      | none => rfl
      | some o => exact absurd nd ((x1.trans x2).on d (by rw [z]; simp))
    have w3 := w2.own nd (.dK (mergeK [] ((xs.map kf).zip vs2)))
    have x3 := (x1.trans x2).trans (ExtX.own (p := k.p) w2.sub nd (.dK (mergeK [] ((xs.map kf).zip vs2))))
    obtain ⟨x4, w4, s4⟩ := w3.letgo (o := .frz od (.dK (mergeK [] ((xs.map kf).zip vs2)))) x3 n1 (w.h0 n1) (w2.sub.free nd)
    refine q _ _ _ x4 w4 ⟨d, _, od, rfl, upd_same, ?_⟩
    have pr : ∀ {xs : List κ} {vs2 : List V} {ys : List β}, All2 (Rb.r F2) vs2 ys → AllD kf (Rb.r F2) ((xs.map kf).zip vs2) (xs.zip ys) := by
      intro xs
      induction xs with
      | nil => intro vs2 ys _; simp; exact .nil
      | cons x xs ih =>
        intro vs2 ys al
        cases al with
        | nil => simp; exact .nil
        | cons h t => simp only [List.map_cons, List.zip_cons_cons]; exact .cons h (ih t)
    exact (AllD.merge ky.inj .nil (pr al2)).imp fun _ _ g => Rb.st s4 g))
end
end PF

set_option Elab.async false
set_option linter.all false
set_option maxRecDepth 100000
set_option maxHeartbeats 1000000
namespace PF
open PySem PySem.Spec PyProof.Rows L2 SlX
/-! ### iter(t), t a tuple -/
def TItO (t it : Addr) (i : Nat) : HO := .ext fun h => h.IsTupleIter it t i
theorem titO_ok {P : Program} {w : World} {H : Hp} {h : Heap} {t it : Addr} {i : Nat} (e : h.IsTupleIter it t i) : ObjOk P w H h it (TItO t it i) := ⟨e, (let ⟨o, h, _⟩ := e; ⟨o, h⟩), fun h1 h2 q k => q.at fun o z => k _ z⟩
/-- what has ended -/
def AnyO (it : Addr) : HO := .ext fun h => ∃ o, h.get? it = some o
theorem anyO_ok {P : Program} {w : World} {H : Hp} {h : Heap} {it : Addr} (e : ∃ o, h.get? it = some o) : ObjOk P w H h it (AnyO it) := ⟨e, e, fun h1 h2 q k => let ⟨o, z⟩ := q; ⟨o, k _ z⟩⟩
def rIterT (K : PySem.W.Frag) : List V → Hp → VK → Prop := fun xs H Q => ∃ (t : Addr) (zs : List V), xs = [.ref t] ∧ SqT K H t zs ∧ ∀ it, H it = none → Q (.ref it) (upd H it (TItO t it 0))
section
variable {X : Cx}
theorem call_iterT : CallR X (.builtin "iter") (rIterT X.K) := by
  intro pins s σ H xs us Q I r h
  obtain ⟨t, zs, rfl, hq, q⟩ := h
  obtain rfl := Vals.ref1 r
  obtain ⟨its, rv, pl, hz⟩ := I.tuple hq
  refine Calls.call_function_entry (by decide +kernel) (by decide +kernel) PySem.W.kdk_entry_iter (PySem.W.kdk_args_iter _) ?_
  unfold Builtin.«iter»
  refine wpAny_bind (m := someArgs "iter" 1 2 _) (wpAny_of_eq (a := [Value.ref t]) (by first | rfl | kernel_rfl!) ?_)
  show wpAny _ _ (pyIter (.ref t) >>= _) _ _ _
  refine wpAny_bind (wpAny_pyIter_tuple (items := its.toArray) pl ?_)
  refine wpAny_pure ⟨_, rfl, ?_⟩
  exact ⟨.ref s.heap.objs.size, _, I.laid (t' := s.toks) (fun b u e => Heap.get?_push_of_some _ e) (Nat.le_refl _) (titO_ok ⟨_, Heap.get?_push_size _ rfl, rfl, rfl⟩), rfl, q _ (I.hok.fresh (Nat.le_refl _))⟩
end
/-! ### list(o), o with an own __len__, and an own __iter__ that gives iter(t) -/
structure ItT (K : PySem.W.Frag) (C fi fl : Addr) : Prop where
  it : PySem.W.findIn K (.ref C) "__iter__" = some (some (.ref fi))
  itF : PySem.W.isFn K (.ref fi) = true
  ln : PySem.W.findIn K (.ref C) "__len__" = some (some (.ref fl))
  lnF : PySem.W.isFn K (.ref fl) = true
section
variable {prog : Program} {w : World} {A : Around} {E : Value → Shared → Prop} {s : Shared}
theorem next_tuple_end {it t : Addr} {i : Nat} {items : Array Value} {Q : Option Value → Shared → Prop} (hh : A.handled = none)
    (hit : s.heap.IsTupleIter it t i) (ht : s.heap.IsTuple t items) (hx : items[i]? = none)
    (hQ : ∀ h', Heap.ExtBut it s.heap h' → (∃ o, h'.get? it = some o) → Q none { s with heap := h' }) : wpAny (model prog w) A (pyNext (.ref it)) Q E s := by
  obtain ⟨o, ho, hc, hd⟩ := id hit
  obtain ⟨ol, hol, _, nl, hdl⟩ := ht
  unfold pyNext
  refine wpAny_bind (wpAny_attempt (wpAny_callSpecial?_slot (name := Str.ofString "__next__") hit.typeIs F.slot_tuple_iterator_next
    (wpAny_call_entry F.slot_tuple_iterator_next hit.typeIs F.entry_tuple_iterator_next ?_ (F.args_tuple_iterator_next_1 _))))
  show wpAny _ _ (field (.ref it) 0 >>= _) _ _ s
  refine wpAny_bind (wpAny_field ho hd (x := .ref t) rfl ?_)
  show wpAny _ _ (if (Value.ref t == Value.none) = true then _ else _) _ _ s
  rw [if_neg (show ¬ ((Value.ref t == Value.none) = true) from Bool.false_ne_true)]
  show wpAny _ _ (field (.ref it) 1 >>= _) _ _ s
  refine wpAny_bind (wpAny_field ho hd (x := .int i 0) rfl ?_)
  show wpAny _ _ (seqItems? (.ref t) >>= _) _ _ s
  refine wpAny_bind (wpAny_seqItems hol hdl ?_)
  simp only [Int.toNat_natCast, hx]
  refine wpAny_bind (wpAny_rule (wpAny_bind (wpAny_setField ho hd (by simp) ?_)))
  show wpAny _ _ (newExc (.type "StopIteration") [] >>= _) _ _ _
  refine wpAny_bind ?_
  simp only [newExc, newTuple]
  refine wpAny_bind (wpAny_newObj_type ?_ (by size_fits))
  refine wpAny_bind (m := firstArgMember _ _) (wpAny_of_eq (a := Value.none) (by first | rfl | (simp only [firstArgMember]; rfl)) ?_)
  refine wpAny_newObj_type ?_ (by size_fits)
  simp only [raiseNew]
  refine wpAny_bind (wpAny_handled ?_)
  first | rw [show A.in1.handled = none from hh] | rw [hh]
  refine wpAny_bind (wpAny_pure (wpAny_throw ?_))
  refine wpAny_bind (wpAny_isInstance (T := "StopIteration") (b := true) ⟨_, Heap.get?_push_size _ rfl, rfl⟩ isSubtype_stop ?_)
  obtain ⟨o2, ho2⟩ : ∃ o2, (s.heap.update it (Obj.mapFields (·.setIfInBounds 0 Value.none))).get? it = some o2 := by
    refine Option.isSome_iff_exists.mp ?_
    rw [Heap.get?_update_isSome _ _ _ fun o => by
      cases o with
      | mk c d dt sl => cases dt <;> rfl, ho]
    rfl
  exact wpAny_pure (hQ _ (((Heap.SameBut.update ..).extBut.push _).push _) ⟨o2, Heap.get?_push_of_some _ (Heap.get?_push_of_some _ ho2)⟩)
end
section
variable {X : Cx} {pins : List (Addr × Obj)} {σ : L2.St} {H : Hp} {s s' : Shared}
variable {C fi fl a q t it : Addr} {n : Nat} {spI spL : Sp} {A1 : Around}
theorem it_loop {Rs : Result → Shared → Prop} {ys : List V} (hh : A1.handled = none) (ne : it ≠ q) (hdone : ∀ H' s', Inv X pins σ H' s' → H' q = some (.lst ys) → H' it = some (AnyO it) → (∀ b, b ≠ q → b ≠ it → H' b = H b) → Rs (.ok (.ret .none)) s') (hz : ys.length ≤ 1000000) (hst : ∀ H', (∀ b, b ≠ q → b ≠ it → H' b = H b) → SqT X.K H' t ys) :
    ∀ (m i : Nat) (H1 : Hp) (s : Shared), m = ys.length - i → i ≤ ys.length → Inv X pins σ H1 s → H1 q = some (.lst (ys.take i)) → H1 it = some (TItO t it i) → (∀ b, b ≠ q → b ≠ it → H1 b = H b) →
    codeAny (model X.prog X.w) A1 (.builtin "list.extend.loop" ⟨[.ref q, .ref it, .none], []⟩) Rs s := by
  intro m
  induction m with
  | zero =>
    intro i H1 s hm hi I h1 h2 h3
    have ei : i = ys.length := by omega
    refine codeAny_builtin PySem.F.entry_extend_loop ?_
    rw [Around.under_plainId PySem.F.plain_extend_loop _]
    show wpAny _ A1.in1 (pyNext (.ref it) >>= _) _ _ s
    have hT1 : SqT X.K H1 t ys := hst H1 h3
    obtain ⟨its, rv, pl, _⟩ := I.tuple hT1
    refine wpAny_bind (next_tuple_end (items := its.toArray) hh (I.hok it _ h2).1 pl (by
      have := rv.length
      simp
      omega) fun h' eb ⟨o, ho⟩ => ?_)
    have I2 : Inv X pins σ (upd H1 it (AnyO it)) { s with heap := h' } := I.write (x := it) (e := it) (t' := s.toks) (by rw [h2]; exact trivial) (.inl rfl) (fun b u hb z => eb b u hb z) ⟨o, ho⟩ (anyO_ok ⟨o, ho⟩)
    refine wpAny_pure (hdone _ _ I2 (by rw [upd_ne (Ne.symm ne), h1, ei, List.take_length]) upd_same fun b b1 b2 => by rw [upd_ne b2]; exact h3 b b1 b2)
  | succ m ih =>
    intro i H1 s hm hi I h1 h2 h3
    have hi' : i < ys.length := by omega
    refine codeAny_builtin PySem.F.entry_extend_loop ?_
    rw [Around.under_plainId PySem.F.plain_extend_loop _]
    show wpAny _ A1.in1 (pyNext (.ref it) >>= _) _ _ s
    have hT1 : SqT X.K H1 t ys := hst H1 h3
    obtain ⟨its, rv, pl, _⟩ := I.tuple hT1
    obtain ⟨u, hu, ru⟩ := rv.get (List.getElem?_eq_getElem hi')
    refine wpAny_bind (wpAny_pyNext_tuple_item (items := its.toArray) (x := u) (I.hok it _ h2).1 pl (by simpa using hu) fun h' st' sb => ?_)
    obtain ⟨o, ho, _⟩ := id st'
    have I2 : Inv X pins σ (upd H1 it (TItO t it (i + 1))) { s with heap := h' } := I.write (x := it) (e := it) (t' := s.toks) (by rw [h2]; exact trivial) (.inl rfl) (fun b ub hb z => (sb.2 b hb).trans z) ⟨o, ho⟩ (titO_ok st')
    have hq2 : upd H1 it (TItO t it (i + 1)) q = some (.lst (ys.take i)) := by rw [upd_ne (Ne.symm ne)]; exact h1
    show wpAny _ A1.in1 (updateSeq q (·.push u) >>= _) _ _ _
    obtain ⟨z, its3, k, r2, hl, e⟩ := I2.lstM hq2
    rw [List.length_take] at hl z
    have ek : ys.take i ++ [ys[i]] = ys.take (i + 1) := by rw [List.take_succ, List.getElem?_eq_getElem hi']; rfl
    refine wpAny_bind (wpAny_updateSeq e rfl (wpAny_pure ⟨plainId_quiet PySem.F.plain_extend_loop _, ?_⟩) (by rw [List.size_toArray, sizeLine_eq]; omega) (by show (its3.toArray.push u).size ≤ sizeLine + 1; rw [Array.size_push, List.size_toArray, sizeLine_eq]; omega))
    refine ih (i + 1) _ _ (by omega) hi' (I2.lset (its' := its3 ++ [u]) (t' := s.toks) (ys := ys.take (i + 1)) hq2 e (by simp) (by rw [← ek]; exact r2.append (.cons ru .nil)) (by rw [List.length_take, sizeLine_eq]; omega)) upd_same ?_ fun b b1 b2 => ?_
    · rw [upd_ne ne, upd_same]
    · rw [upd_ne b1, upd_ne b2]; exact h3 b b1 b2
theorem it_hint {n : Nat} {Q : Bool → Shared → Prop} {dx : Addr} {vs : List (Option V)} (sb : Sub X n A1.in1) (hc : ItT X.K C fi fl) (FL : FnR X.prog X.w X.K X.mg X.base CX0 n fl spL) (I : Inv X pins σ H s) (sl : Slt H a C dx vs) {R : VK}
    (h : spL [.ref a] H R E0) (hR : ∀ z H', R z H' → ∃ i : Int, z = .int i ∧ 0 ≤ i ∧ i ≤ 1000000 ∧ ∀ (b : Bool) s', Inv X pins σ H' s' → Q b s') : wpAny (model X.prog X.w) A1 (Builtin.List.listLengthHint (.ref a)) Q X.xe s := by
  obtain ⟨_, _, _, J, _⟩ := slt_inst I sl
  obtain ⟨m, fr⟩ := I.fr
  unfold Builtin.List.listLengthHint
  refine wpAny_bind (wpAny_bind (J.type.here ((PySem.W.looks_findIn I.kIn hc.ln).here ?_)))
  refine PySem.W.KFB.if_not rfl ?_
  refine PySem.W.KFB.if_so rfl ?_
  refine wpAny_bind (wpAny_rule ?_)
  have e0 : Env0 X.prog X.w X.K X.mg X.base A1.in1 X.stack s H := by
    have e := I.env0
    exact ⟨by rw [sb.fr]; exact e.frames, e.mod, e.bs, e.bsz, e.funs, e.frf, e.hok, e.bare⟩
  refine wpAny_bind (wpAny_attempt (PySem.W.len_K fr I.ok.mod.kin J hc.ln hc.lnF (wpAny_call (codeAny_mono (FL A1.in1 X.stack s H [.ref a] [.ref a] _ E0 sb.room e0 (.cons rfl .nil) h) fun rr s' hq => ?_))))
  cases rr with
  | error e => exact hq.elim
  | ok fl => cases fl with
    | next => exact hq.elim
    | brk => exact hq.elim
    | cont => exact hq.elim
    | ret w =>
      obtain ⟨z', H', I', rz, hz⟩ := I.after hq
      obtain ⟨i, ei, i0, i1, qz⟩ := hR _ _ hz
      subst ei
      obtain ⟨t, e⟩ := (show ∃ t, w = Value.int i t from rz)
      cases e
      refine ⟨⟨i0, by omega⟩, ?_⟩
      refine wpAny_bind (m := asInt? _) (wpAny_pure ?_)
      refine PySem.W.KFB.if_not (show Builtin.List.listTooLong i.toNat = false from decide_eq_false (by rw [sizeLine_eq]; omega)) ?_
      exact wpAny_pure (qz _ _ (I'.tok _))
/-- list(o) -/
def rListIt (C : Addr) (spI spL : Sp) (K : PySem.W.Frag) : List V → Hp → VK → Prop := fun xs H Q => ∃ a dx vs, xs = [V.ref a] ∧ Slt H a C dx vs ∧ ∀ q, H q = none → Slt (upd H q (.lst [])) a C dx vs ∧
  spI [.ref a] (upd H q (.lst [])) (fun v H1 => ∃ it t ys, v = .ref it ∧ H1 it = some (TItO t it 0) ∧ SqT K H1 t ys ∧ H1 q = some (.lst []) ∧ it ≠ q ∧ Slt H1 a C dx vs ∧ ys.length ≤ 1000000 ∧
    spL [.ref a] H1 (fun z H2 => ∃ i : Int, z = .int i ∧ 0 ≤ i ∧ i ≤ 1000000 ∧ H2 q = some (.lst []) ∧ H2 it = some (TItO t it 0) ∧ SqT K H2 t ys ∧
      ∀ H3, H3 q = some (.lst ys) → H3 it = some (AnyO it) → (∀ b, b ≠ q → b ≠ it → H3 b = H2 b) → Q (.ref q) H3) E0) E0
theorem it_extend {Rs : Result → Shared → Prop} {n : Nat} {dx : Addr} {vs : List (Option V)} {Q : Hp → Prop} (hh : A1.handled = none) (sb : Sub X (n + 1) A1.in1) (hc : ItT X.K C fi fl) (FI : FnR X.prog X.w X.K X.mg X.base CX0 n fi spI) (FL : FnR X.prog X.w X.K X.mg X.base CX0 n fl spL)
    (I : Inv X pins σ H s) (sl : Slt H a C dx vs) (hq : H q = some (.lst []))
    (h : spI [.ref a] H (fun v H1 => ∃ it t ys, v = .ref it ∧ H1 it = some (TItO t it 0) ∧ SqT X.K H1 t ys ∧ H1 q = some (.lst []) ∧ it ≠ q ∧ Slt H1 a C dx vs ∧ ys.length ≤ 1000000 ∧
    spL [.ref a] H1 (fun z H2 => ∃ i : Int, z = .int i ∧ 0 ≤ i ∧ i ≤ 1000000 ∧ H2 q = some (.lst []) ∧ H2 it = some (TItO t it 0) ∧ SqT X.K H2 t ys ∧
      ∀ H3, H3 q = some (.lst ys) → H3 it = some (AnyO it) → (∀ b, b ≠ q → b ≠ it → H3 b = H2 b) → Q H3) E0) E0)
    (hdone : ∀ H' s', Inv X pins σ H' s' → Q H' → Rs (.ok (.ret .none)) s') (ne : q ≠ a) (hC : (Value.ref C == Value.type "list") = false) :
    wpAny (model X.prog X.w) A1.in1 (Builtin.List.listExtendWith (.ref q) (.ref a) .none)
      (fun fin s' => match fin with | .done f => Rs (.ok f) s' | .again c' => c'.quiet = true ∧ codeAny (model X.prog X.w) A1 c' Rs s') (fun e s' => X.xe e s') s := by
  obtain ⟨_, _, _, J, _⟩ := slt_inst I sl
  obtain ⟨m0, hF⟩ := I.fr
  unfold Builtin.List.listExtendWith
  refine wpAny_bind (J.type.here ?_)
  have h1 : Builtin.List.listSameRef (.ref q) (.ref a) = false := by simp [Builtin.List.listSameRef, ne]
  have h2 : (Value.ref C == Value.type "list") = false := rfl
  have h3 : (Value.ref C == Value.type "tuple") = false := rfl
  simp only [h1, h2, h3, Bool.or_false, Bool.false_eq_true, if_false]
  refine wpAny_bind (PySem.W.owit_iter hF I.ok.mod.kin J hc.it hc.itF ?_)
  have e0 : Env0 X.prog X.w X.K X.mg X.base A1.in1 X.stack s H := by
    have e := I.env0
    exact ⟨by rw [sb.fr]; exact e.frames, e.mod, e.bs, e.bsz, e.funs, e.frf, e.hok, e.bare⟩
  refine wpAny_call (codeAny_mono (FI A1.in1 X.stack s H [.ref a] [.ref a] _ E0 (sb.room.mono (Nat.le_succ _)) e0 (.cons rfl .nil) h) fun rr s' hq' => ?_)
  cases rr with
  | error e => exact hq'.elim
  | ok fl => cases fl with
    | next => exact hq'.elim
    | brk => exact hq'.elim
    | cont => exact hq'.elim
    | ret u =>
      obtain ⟨v, H', I', rv, it, t, ys, ev, k1, k2, k3, n1, sl', hz, k4⟩ := I.after hq'
      subst ev
      cases rv
      have hT : s'.TypeIs (.ref it) "tuple_iterator" := (I'.hok it _ k1).1.typeIs
      unfold PySem.W.OwitIt
      refine wpAny_specialOf (name := Str.ofString "__next__") hT F.slot_tuple_iterator_next.lookup ?_
      refine wpAny_bind (wpAny_holding (it_hint (A1 := A1.in1) (n := n) (Sub.in1 sb) hc FL I' sl' k4 fun z H2 ⟨i, ez, i0, i1, g1, g2, g3, g4⟩ => ⟨i, ez, i0, i1, fun bb s2 I2 => ?_⟩))
      have hst : ∀ H', (∀ b, b ≠ q → b ≠ it → H' b = H2 b) → SqT X.K H' t ys := fun H' eq => by
        have n : ∀ o, H2 t = some o → (∀ l, o ≠ .lst l) → (∀ φ, o ≠ .ext φ) → H' t = some o := fun o h a1 a2 => by
          rw [eq t (fun z => a1 _ (by rw [z, g1] at h; exact (Option.some.inj h).symm)) fun z => a2 _ (by rw [z, g2] at h; exact (Option.some.inj h).symm)]; exact h
        rcases g3 with (h | ⟨o, h⟩) | h
        · exact .inl (.inl (n _ h (fun _ z => nomatch z) fun _ z => nomatch z))
        · exact .inl (.inr ⟨o, n _ h (fun _ z => nomatch z) fun _ z => nomatch z⟩)
        · exact .inr h
      have loop : ∀ s3, Inv X pins σ H2 s3 → codeAny (model X.prog X.w) A1 (.builtin "list.extend.loop" ⟨[.ref q, .ref it, .none], []⟩) Rs s3 := fun s3 I3 =>
        it_loop (H := H2) (t := t) (ys := ys) hh n1 (fun H3 s4 I4 e1 e2 e3 => hdone H3 s4 I4 (g4 H3 e1 e2 e3)) hz hst ys.length 0 H2 s3 (by omega) (Nat.zero_le _) I3 (by rw [g1]; rfl) g2 (fun _ _ _ => rfl)
      obtain ⟨z, its, k, r3, hl3, e3⟩ := I2.lstM g1
      cases r3
      refine wpAny_ite_split (fun _ => ?_) (fun _ => wpAny_pure ⟨plainId_quiet PySem.F.plain_extend_loop _, loop _ I2⟩)
      refine wpAny_bind (wpAny_rule ?_)
      refine wpAny_bind ?_
      show wpAny _ _ (updateSeq q (·.push .none) >>= fun _ => updateSeq q (·.pop)) _ _ _
      refine wpAny_bind (wpAny_updateSeq e3 rfl ?_)
      have I3 := I2.lset (f := (·.push Value.none)) (its' := [Value.none]) (ys := [.non]) (t' := s2.toks) g1 e3 (by simp) (.cons rfl .nil) (by rw [List.length_singleton, sizeLine_eq]; decide)
      obtain ⟨z4, its4, k4', r4, hl4, e4⟩ := I3.lstM upd_same
      obtain ⟨u4, rfl, ru4⟩ := r4.one
      refine wpAny_updateSeq e4 rfl ?_ (by show 1 ≤ sizeLine; rw [sizeLine_eq]; decide) (by show 0 ≤ sizeLine + 1; exact Nat.zero_le _)
      refine wpAny_pure ⟨plainId_quiet PySem.F.plain_extend_loop _, loop _ ?_⟩
      have I5 := I3.lset (f := (·.pop)) (its := [u4]) (its' := []) (ys := []) (t' := s2.toks) upd_same e4 (by rfl) .nil (Nat.zero_le _)
      rw [upd_upd] at I5
      have hH : upd H2 q (.lst []) = H2 := by
        funext b
        by_cases hb : b = q
        · rw [hb, upd_same, g1]
        · rw [upd_ne hb]
      rw [hH] at I5
      exact I5
theorem call_listIt {n : Nat} (hcalm : X.calm = true) (hc : ItT X.K C fi fl) (FI : FnR X.prog X.w X.K X.mg X.base CX0 n fi spI) (FL : FnR X.prog X.w X.K X.mg X.base CX0 n fl spL) (hr : Room (n + 3) X.A) : CallR X (.type "list") (rListIt C spI spL X.K) := by
  intro pins s σ H xs us Q I rv h
  obtain ⟨a, dx, vs, rfl, ha, hq⟩ := h
  obtain ⟨u, rfl, ru⟩ := rv.one
  cases ru
  have sb : Sub X (n + 1) X.A.in1.in1 := (Sub.in1 (Sub.in1 (⟨hr, rfl⟩ : Sub X (n + 1 + 2) X.A)))
  refine callType_codes (Q₁ := fun obj s₁ => obj = .ref s.heap.objs.size ∧ s₁ = { s with heap := s.heap.push { cls := .type "list", data := .seq #[] } }) PySem.F.called_list (PySem.F.typeCall_list_1 _) PySem.F.entry_list_init
    (code_list_new _ ⟨rfl, rfl⟩) fun obj s₁ h₁ => ?_
  obtain ⟨rfl, rfl⟩ := h₁
  have hS : (s.heap.push { cls := .type "list", data := .seq #[] }).get? s.heap.objs.size = some { cls := .type "list", data := .seq #[] } := Heap.get?_push_size _ rfl
  refine ⟨⟨_, hS, rfl⟩, PySem.F.args_list_init_2 _ _, ?_⟩
  have fr : H s.heap.objs.size = none := I.hok.fresh (Nat.le_refl _)
  obtain ⟨sl', hq⟩ := hq _ fr
  have I1 : Inv X pins σ (upd H s.heap.objs.size (.lst [])) { s with heap := s.heap.push { cls := .type "list", data := .seq #[] } } := I.lnew (its := []) (t' := s.toks) .nil (Nat.zero_le _)
  show wpAny _ _ (do let old ← Builtin.List.listItems (.ref s.heap.objs.size); Builtin.List.listUpdate (.ref s.heap.objs.size) (fun _ => #[]); letGo old.toList.reverse; Builtin.List.listExtendWith (.ref s.heap.objs.size) (.ref a) .none) _ _ _
  refine wpAny_bind ?_
  unfold Builtin.List.listItems
  refine wpAny_bind (wpAny_seqItems hS rfl (wpAny_pure ?_))
  show wpAny _ _ (updateSeq s.heap.objs.size (fun _ => #[]) >>= fun _ => letGo (#[] : Array Value).toList.reverse >>= fun _ => Builtin.List.listExtendWith (.ref s.heap.objs.size) (.ref a) .none) _ _ _
  refine wpAny_bind (wpAny_updateSeq hS rfl ?_)
  have I2 := I1.lset (f := fun _ => #[]) (its := []) (its' := []) (ys := []) (t' := s.toks) upd_same hS rfl .nil (Nat.zero_le _)
  rw [upd_upd] at I2
  refine wpAny_bind (wpAny_letGo ?_)
  have ne : s.heap.objs.size ≠ a := fun z => by
    rcases ha with ⟨q, _⟩ | ⟨q, _⟩ <;> (rw [← z, fr] at q; cases q)
  refine wpAny_mono (it_extend (A1 := X.A.in1) (Rs := wants (fun r s₂ => r = .none ∧ EP X pins σ Q (.ref s.heap.objs.size) s₂) X.xe) (Q := fun H' => Q (.ref s.heap.objs.size) H') (I.ok.hd hcalm) sb hc FI FL I2 sl' upd_same hq
    (fun H' s' I' hR => ⟨rfl, .ref s.heap.objs.size, H', I', rfl, hR⟩) ne rfl) (fun _ _ z => z) fun _ _ z => z
end
structure GLs (P : Program) (w : World) (K : PySem.W.Frag) (mg : Str → Option Value) (base : Heap) (C : Addr) (k : Nat) (spI spL : Sp) : Prop where
  ex : ∃ fi fl, ItT K C fi fl ∧ FnR P w K mg base CX0 k fi spI ∧ FnR P w K mg base CX0 k fl spL
theorem call_listG {X : Cx} {C : Addr} {k : Nat} {spI spL : Sp} (G : GLs X.prog X.w X.K X.mg X.base C k spI spL) (hcalm : X.calm = true) (hr : Room (k + 3) X.A) : CallR X (.type "list") (rListIt C spI spL X.K) := by
  obtain ⟨fi, fl, h1, h2, h3⟩ := G.ex
  exact call_listIt hcalm h1 h2 h3 hr
/-- what __iter__ promises: an iterator over f o -/
def spIt {α β : Type} (K : PySem.W.Frag) (Ro : Rp α) (R : Rp β) (f : α → List β) : Sp := fun vs H Q _ => ∃ F x o, vs = [x] ∧ Same F H ∧ Ro.r F x o ∧ ∀ it t ys, H it = none → SqT K F t ys → All2 (R.r F) ys (f o) → Q (.ref it) (upd H it (TItO t it 0))
section
variable {α β : Type} {Ro : Rp α} {Rb : Rp β} {K : PySem.W.Frag} {C : Addr}
theorem c_listIt {f : α → List β} {ml : α × Unit → M Int} (hs : SlR1 Ro C) : CaN md0 (rListIt C (spIt K Ro Rb f) (spOf (a1 Ro) rInt ml) K) (a1 Ro) Rb fun a => .need ((f a.1).length ≤ 1000000) (((ml (a.1, ())).still).bind fun i => .need (0 ≤ i ∧ i ≤ 1000000) (.ret (f a.1))) := fun k F H c vs a Q w r ⟨hlen, q⟩ => by
  obtain ⟨v, e, r⟩ := one r
  obtain ⟨p, dx, ws, ev, sl⟩ := hs.at_ r
  subst ev
  refine ⟨p, dx, ws, e, slt_same w.sub sl, fun D nD => ?_⟩
  have sub1 : Same F (upd H D (.lst [])) := fun b o z => by
    have z' := w.sub b o z
    rw [upd_ne (ne_of_none z' nD)]; exact z'
  refine ⟨slt_same sub1 sl, F, .ref p, a.1, rfl, sub1, r, fun it t ys nit ht al => ?_⟩
  have nq : it ≠ D := fun z => by rw [z, upd_same] at nit; cases nit
  have nit' : H it = none := by rw [upd_ne nq] at nit; exact nit
  have sub2 : Same F (upd (upd H D (.lst [])) it (TItO t it 0)) := fun b o z => by
    have z' := sub1 b o z
    rw [upd_ne (ne_of_none z' nit)]; exact z'
  have ez := q
  refine ⟨it, t, ys, rfl, upd_same, same_seqT sub2 ht, by rw [upd_ne (Ne.symm nq), upd_same], nq, slt_same sub2 sl, ?_, F, (a.1, ()), sub2, ⟨_, _, rfl, r, rfl⟩, (ml (a.1, ())).mono 0 (fun b _ z u F' H2 xx r2 => ?_) (fun _ z => XP.no w z) q⟩
  · rw [al.len]; exact hlen
  obtain ⟨⟨z0, z1⟩, z⟩ := z
  have h1D : upd (upd H D (.lst [])) it (TItO t it 0) D = some (.lst []) := by rw [upd_ne (Ne.symm nq), upd_same]
  have h1i : upd (upd H D (.lst [])) it (TItO t it 0) it = some (TItO t it 0) := upd_same
  have FD : F' D = none := (xx.old D (some_ne h1D)).trans (w.sub.free nD)
  have Fi : F' it = none := (xx.old it (some_ne h1i)).trans (w.sub.free nit')
  refine ⟨b, r2, z0, z1, xx.hp _ _ (fun z => nomatch z) h1D, xx.hp _ _ (fun z => nomatch z) h1i, same_seqT (xx.fz.trans xx.sub) ht, fun H3 e1 e2 e3 => ?_⟩
  have ag : ∀ b, H b ≠ none → b ≠ D ∧ b ≠ it := fun b nb => ⟨fun z => nb (by rw [z]; exact nD), fun z => nb (by rw [z]; exact nit')⟩
  have h1 : ∀ b, b ≠ D → b ≠ it → upd (upd H D (.lst [])) it (TItO t it 0) b = H b := fun b n1 n2 => by rw [upd_ne n2, upd_ne n1]
  have x3 : ExtX none F H F' H3 := by
    refine ⟨xx.fz, fun b o z => ?_, fun b o np z => ?_, fun b nb => ?_, fun b nb => ?_⟩
    · have n1 : b ≠ D := fun y => by rw [y, FD] at z; cases z
      have n2 : b ≠ it := fun y => by rw [y, Fi] at z; cases z
      rw [e3 b n1 n2]; exact xx.sub b o z
    · obtain ⟨n1, n2⟩ := ag b (some_ne z)
      rw [e3 b n1 n2]
      exact xx.hp b o np (by rw [h1 b n1 n2]; exact z)
    · obtain ⟨n1, n2⟩ := ag b nb
      exact xx.old b (by rw [h1 b n1 n2]; exact nb)
    · obtain ⟨n1, n2⟩ := ag b nb
      rw [e3 b n1 n2]
      exact xx.on b (by rw [h1 b n1 n2]; exact nb)
  exact z D ys F' H3 (w.call x3).1 (w.call x3).2 nD (w.h0 nD) e1 FD (al.imp fun _ _ g => Rb.st xx.fz g)
end
end PF

set_option Elab.async false
set_option linter.all false
set_option maxRecDepth 100000
set_option maxHeartbeats 1000000
namespace PF
open PySem PySem.Spec PyProof.Rows L2 SlX
/-! ### inside a comprehension: the model's tables named, not the block's -/
section
variable {X : Cx} {K : PySem.W.Frag} {tg l : Expr} {tl : TE}
theorem pi_listK (hl : PE X l tl) (hK : X.K = K := by rfl) : PI X tg l (iList K tl) := by subst hK; exact pi_list hl
theorem pi_tupK (hl : PE X l tl) (hK : X.K = K := by rfl) : PI X tg l (iTup K tl) := by subst hK; exact pi_tup hl
variable {o e : Expr} {es : List Expr} {to : TE} {t : TA} {name : Str} {apos cpos : Pos} {T id : String} {r : V → List V → Hp → VK → Prop}
theorem pe_bmK (pa : PlainAttrs T) (slot : Slot T name id) (hty : typeOf (.builtin id) = pure (.type "method_descriptor")) (hm : MtR X id r) (ho : PE X o to) (ha : PA X (e :: es) t) (hK : X.K = K := by rfl)
    (hbase : attributeBase o name X.env (eval o X.env) = eval o X.env := by rfl)
    (hfew : ((backTo cpos (starEach (e :: es) X.env)).all (fun x => !x.1) && (backToKw cpos (keywordEach [] X.env)).all (fun x => x.1.isSome)
      && decide ((e :: es).length + ([] : List Keyword).length + (if ([] : List Keyword).isEmpty then 0 else 1) < 30)) = true := by rfl)
    (hline : (apos.endLine == cpos.line) = true := by rfl) (hs : starEach (e :: es) X.env = (false, eval e X.env) :: starEach es X.env := by rfl) (hplain : (backTo cpos (starEach es X.env)).any (·.1) = false := by rfl) :
    PE X (.Call (.Attribute o name apos) (e :: es) [] cpos) (tBM K T r to t) := by subst hK; exact pe_bm pa slot hty hm ho ha hbase hfew hline hs hplain
end
end PF

set_option Elab.async false
set_option linter.all false
set_option maxRecDepth 100000
set_option maxHeartbeats 4000000
set_option exponentiation.threshold 20000
namespace PF
open PySem PySem.Spec PyProof.Rows L2 SlX
section
variable {Γ : Type} {α β γ : Type} {μ : Md} {E : EV Γ} {Ra : Rp α} {Rb : Rp β} {R : Rp γ} {K : PySem.W.Frag}
/-! ### the dice -/
theorem e_roll {i : Nat} {g : Γ → Unit} {te : TE} {m : Γ → M Int} (hi : GetS E i sDice g) (he : SE md0 E rInt te m) : SE md0 E rInt (tCall spRoll [] E0 (tCons (tVar i) (tCons te tNil))) fun ρ => (m ρ).bind fun t => M.roll t := fun k F H σ ρ c Q w e h => by
  obtain ⟨o, h1, p, rfl, hp⟩ := hi.get e.r
  refine ⟨.ref p, h1, he k F H σ ρ c _ w e (wp_imp h fun t c1 ⟨q1, q2, q3, q⟩ v F1 H1 x1 w1 r1 => ?_)⟩
  obtain ⟨d1, d0, d2⟩ := w1.dice p hp
  refine ⟨p, t, c1, by rw [r1]; rfl, d2, by omega, q2, q3, fun r H' h1 h2 s d => ?_⟩
  have d2' := d2
  obtain ⟨_, _, _, hd, _⟩ := d2'
  have d' := d
  obtain ⟨_, _, _, hd', _⟩ := d'
  have x2 : ExtX (some p) F1 H1 F1 H' := ⟨Same.refl _, fun b o z => s b o (fun y => by subst y; rw [d1] at z; cases z) (w1.sub b o z), fun b o n z => s b o (fun y => n (by rw [y])) z, fun _ _ => rfl, fun b z => by
    by_cases y : b = p
    · subst y; rw [hd']; simp
    · cases zz : H1 b with
      | none => exact absurd zz z
      | some o => rw [s b o y zz]; simp⟩
  obtain ⟨x3, w3⟩ := w1.callD hp x2 d1 d
  exact q r h1 h2 _ F1 H' (x1.trans x3) w3 rfl
theorem e_pick {i : Nat} {g : Γ → Unit} {tl : TE} {m : Γ → M (List α)} (hi : GetS E i sDice g) (hl : SE md0 E (rLs Ra) tl m) : SE md0 E Ra (tCall spPick [] E0 (tCons (tVar i) (tCons tl tNil))) fun ρ => (m ρ).bind fun t => M.pick t := fun k F H σ ρ c Q w e h => by
  obtain ⟨o, h1, p, rfl, hp⟩ := hi.get e.r
  refine ⟨.ref p, h1, hl k F H σ ρ c _ w e (wp_imp h fun xs c1 ⟨q1, q2, q3, q⟩ v F1 H1 x1 w1 ⟨l, vs, ev, hlF, al⟩ => ?_)⟩
  obtain ⟨d1, d0, d2⟩ := w1.dice p hp
  have len := al.len
  have lp : l ≠ p := fun z => by rw [z, d1] at hlF; cases hlF
  refine ⟨p, l, vs, c1, by rw [ev]; rfl, d2, by omega, w1.sub _ _ hlF, lp, by omega, by omega, fun u H' hu s d => ?_⟩
  have d2' := d2
  obtain ⟨_, _, _, hd, _⟩ := d2'
  have d' := d
  obtain ⟨_, _, _, hd', _⟩ := d'
  have x2 : ExtX (some p) F1 H1 F1 H' := ⟨Same.refl _, fun b o z => s b o (fun y => by subst y; rw [d1] at z; cases z) (w1.sub b o z), fun b o n z => s b o (fun y => n (by rw [y])) z, fun _ _ => rfl, fun b z => by
    by_cases y : b = p
    · subst y; rw [hd']; simp
    · cases zz : H1 b with
      | none => exact absurd zz z
      | some o => rw [s b o y zz]; simp⟩
  obtain ⟨x3, w3⟩ := w1.callD hp x2 d1 d
  obtain ⟨j, hj, ej⟩ := List.getElem_of_mem hu
  have hj2 : j < xs.length := by omega
  obtain ⟨u', hu', r⟩ := al.get (List.getElem?_eq_getElem hj2)
  rw [List.getElem?_eq_getElem hj, ej] at hu'
  cases hu'
  exact q _ (List.getElem_mem hj2) u F1 H' (x1.trans x3) w3 r
end
end PF

set_option Elab.async false
set_option linter.all false
set_option maxRecDepth 100000
set_option maxHeartbeats 1000000
namespace PF
open PySem PySem.Spec PyProof.Rows L2 SlX GenW
/-! ### `if` in a generator's body -/
def tGIf (c : TT) (t u : TGn) : TGn := fun D ys σ H => c σ H fun b H1 => if b = true then t D ys σ H1 else u D ys σ H1
theorem gs_if {X : Cx} {c : Expr} {a b : List Stmt} {pos : Pos} {tc : TT} {t u : TGn} (hc : PT X c tc) (ha : GSs X a t) (hb : GSs X b u) : L2.GS X (.If c a b pos) (tGIf tc t u) := by
  refine ⟨fun A S ip R n ys s₀ cd fs K J gd lv s σ H D g hn k hI ht => ?_⟩
  rw [exec_If]
  refine seg_bind_wrap (wpAny_standAt ?_)
  refine seg_bind_wrap ?_
  rw [g.over]
  obtain ⟨acc, cc, r, I⟩ := hI
  refine wpAny_mono (hc.run _ s σ H _ I ht) (fun d s' hd => ?_) fun x s' hx => k.exc n s₀ x s' hx
  obtain ⟨H2, I2, q2⟩ := hd
  cases d with
  | true => exact ha.run A S ip R n ys s₀ cd fs K J gd lv s' σ H2 D g hn k ⟨acc, cc, r, I2⟩ q2
  | false => exact hb.run A S ip R n ys s₀ cd fs K J gd lv s' σ H2 D g hn k ⟨acc, cc, r, I2⟩ q2
theorem ps_nox {X : Cx} {st : Stmt} {t : TS} (h : PS X.nox st t) : PS X st t := ⟨fun pins s σ H D I hw =>
  wpAny_mono (h.run pins s σ H D (I.wish _) hw) (fun _ _ q => q.unwish) fun _ _ z => False.elim z⟩
/-! ### generators as plain programs: bs, what is out so far, ahead of the names -/
def YP {Γ Δ β : Type} (k : Cn) (F0 : Hp) (E' : EV Γ) (El : EV Δ) (R : Rp β) (D : GEnds) : Ct (List β × Γ) (List β × Δ) (List β) → Nat → Prop := fun t c' => match t with
  | .nx z => ∀ F H σ vs, Same F0 F → Wo k F H c' → EI k E' F H σ z.2 → All2 (R.r F) vs z.1 → D.nx vs σ H
  | .rt bs => ∀ F H vs, Same F0 F → Wo k F H c' → All2 (R.r F) vs bs → D.rt vs .non H
  | .bk z => ∀ F H σ vs, Same F0 F → Wo k F H c' → EI k El F H σ z.2 → All2 (R.r F) vs z.1 → D.bk vs σ H
  | .ct z => ∀ F H σ vs, Same F0 F → Wo k F H c' → EI k El F H σ z.2 → All2 (R.r F) vs z.1 → D.ct vs σ H
theorem YP.fz {Γ Δ β : Type} {k : Cn} {F0 F1 : Hp} {E' : EV Γ} {El : EV Δ} {R : Rp β} {D : GEnds} {t : Ct (List β × Γ) (List β × Δ) (List β)} {c : Nat} (s : Same F0 F1) (h : YP k F0 E' El R D t c) : YP k F1 E' El R D t c := by
  cases t with
  | nx ρ => exact fun F H σ vs z => h F H σ vs (s.trans z)
  | rt b => exact fun F H vs z => h F H vs (s.trans z)
  | bk ρ => exact fun F H σ vs z => h F H σ vs (s.trans z)
  | ct ρ => exact fun F H σ vs z => h F H σ vs (s.trans z)
def SY {Γ Γ' Δ β : Type} (μ : Md) (E : EV Γ) (E' : EV Γ') (El : EV Δ) (R : Rp β) (tg : TGn) (m : List β × Γ → M (Ct (List β × Γ') (List β × Δ) (List β))) : Prop :=
  ∀ (k : Cn) (F H : Hp) (σ : L2.St) (bs : List β) (vs : List V) (ρ : Γ) (c : Nat) (D : GEnds), Wo k F H c → EI k E F H σ ρ → All2 (R.r F) vs bs → (m (bs, ρ)).wp c (YP k F E' El R D) (XP μ k) → tg D vs σ H
section
variable {Γ Γ' Γ'' Δ α β γ : Type} {μ : Md} {E : EV Γ} {E' : EV Γ'} {E'' : EV Γ''} {El : EV Δ} {R : Rp β} {Ra : Rp α}
theorem all2_st {F F' : Hp} {vs : List V} {bs : List β} (s : Same F F') (h : All2 (R.r F) vs bs) : All2 (R.r F') vs bs := h.imp fun _ _ g => R.st s g
/-- a statement without yield -/
def withB (bs : List β) : Ct Γ Δ Unit → M (Ct (List β × Γ) (List β × Δ) (List β))
  | .nx ρ => .ret (.nx (bs, ρ))
  | .rt _ => M.none
  | .bk d => .ret (.bk (bs, d))
  | .ct d => .ret (.ct (bs, d))
theorem y_plain {ts : TS} {m : Γ → M (Ct Γ' Δ Unit)} (h : SS μ E E' El rNon ts m) : SY μ E E' El R (tPlain ts) fun z => (m z.2).bind fun k => withB z.1 k := fun k F H σ bs vs ρ c D w e al q =>
  h k F H σ ρ c _ w e (wp_imp q fun t c1 z => by
    cases t with
    | nx ρ' => exact fun F1 H1 σ1 s1 w1 e1 => z F1 H1 σ1 vs s1 w1 e1 (all2_st s1 al)
    | rt b => exact z.elim
    | bk d => exact fun F1 H1 σ1 s1 w1 e1 => z F1 H1 σ1 vs s1 w1 e1 (all2_st s1 al)
    | ct d => exact fun F1 H1 σ1 s1 w1 e1 => z F1 H1 σ1 vs s1 w1 e1 (all2_st s1 al))
/-- return -/
theorem y_ret : SY μ E E' El R (tPlain tRetN) fun z => .ret (.rt z.1) := fun k F H σ bs vs ρ c D w e al q => q F H vs (Same.refl F) w al
theorem y_nil : SY μ E E El R tG0 fun z => .ret (.nx z) := fun k F H σ bs vs ρ c D w e al q => q F H σ vs (Same.refl F) w e al
theorem y_seq {t u : TGn} {m : List β × Γ → M (Ct (List β × Γ') (List β × Δ) (List β))} {n : List β × Γ' → M (Ct (List β × Γ'') (List β × Δ) (List β))} (h : SY μ E E' El R t m) (h' : SY μ E' E'' El R u n) : SY μ E E'' El R (tGThen t u) fun z => (m z).thn n := fun k F H σ bs vs ρ c D w e al q =>
  h k F H σ bs vs ρ c _ w e al (wp_imp q fun t c1 z => by
    cases t with
    | nx ρ' => exact fun F1 H1 σ1 vs1 s1 w1 e1 al1 => h' k F1 H1 σ1 ρ'.1 vs1 ρ'.2 c1 D w1 e1 al1 (wp_imp z fun _ _ z => z.fz s1)
    | rt b => exact z
    | bk d => exact z
    | ct d => exact z)
theorem y_yield {te : TE} {m : Γ → M β} (he : SE μ E R te m) : SY μ E E El R (tGYield te) fun z => .need (z.1.length < sizeLine) ((m z.2).bind fun v => .ret (.nx (z.1 ++ [v], z.2))) := fun k F H σ bs vs ρ c D w e al q => by
  refine ⟨by rw [al.len]; exact q.1, he k F H σ ρ c _ w e (wp_imp q.2 fun a c1 z v F1 H1 x1 w1 r1 => z F1 H1 σ (vs ++ [v]) x1.fz w1 (e.step x1) ((all2_st x1.fz al).append (.cons r1 .nil)))⟩
theorem y_if {tt : TT} {t u : TGn} {mt : Γ → M Bool} {m n : List β × Γ → M (Ct (List β × Γ') (List β × Δ) (List β))} (ht : ST μ E tt mt) (h : SY μ E E' El R t m) (h' : SY μ E E' El R u n) : SY μ E E' El R (tGIf tt t u) fun z => (mt z.2).bind fun b => .ifb b (m z) (n z) := fun k F H σ bs vs ρ c D w e al q =>
  ht k F H σ ρ c _ w e (wp_imp q fun b c1 z F1 H1 x1 w1 => by
    cases b with
    | true => exact h k F1 H1 σ bs vs ρ c1 D w1 (e.step x1) (all2_st x1.fz al) (wp_imp z fun _ _ z => z.fz x1.fz)
    | false => exact h' k F1 H1 σ bs vs ρ c1 D w1 (e.step x1) (all2_st x1.fz al) (wp_imp z fun _ _ z => z.fz x1.fz))
theorem y_while {tt : TT} {tb : TGn} {mt : Γ → M Bool} {mb : List β × Γ → M (Ct (List β × Γ) (List β × Γ) (List β))} (ht : ST μ E tt mt) (hb : SY μ E E E R tb mb) : SY μ E E El R (tGWhile tt tb) fun z => M.whileM (fun z => mt z.2) mb z := fun k F H σ bs vs ρ c D w e al ⟨n, h⟩ => by
  refine ⟨fun n vs' σ' H' => ∃ F' ρ' bs' c', Same F F' ∧ Wo k F' H' c' ∧ EI k E F' H' σ' ρ' ∧ All2 (R.r F') vs' bs' ∧ (M.whileN (Δ := List β × Δ) (fun z : List β × Γ => mt z.2) mb n (bs', ρ')).wp c' (YP k F E El R D) (XP μ k), ⟨n, F, ρ, bs, c, Same.refl _, w, e, al, h⟩, ?_⟩
  rintro n vs' σ' H' ⟨F', ρ', bs', c', sF, w', e', al', q'⟩
  cases n with
  | zero => exact q'.elim
  | succ n =>
    refine ht k F' H' σ' ρ' c' _ w' e' (wp_imp q' fun b c2 z F2 H2 x2 w2 => ?_)
    cases b with
    | false => exact z F2 H2 σ' vs' (sF.trans x2.fz) w2 (e'.step x2) (all2_st x2.fz al')
    | true =>
      refine ⟨fun vs3 σ3 H3 => ∃ F' ρ' bs' c', Same F F' ∧ Wo k F' H3 c' ∧ EI k E F' H3 σ3 ρ' ∧ All2 (R.r F') vs3 bs' ∧ (M.whileN (Δ := List β × Δ) (fun z : List β × Γ => mt z.2) mb n (bs', ρ')).wp c' (YP k F E El R D) (XP μ k), fun vs3 σ3 H3 z => ⟨n, Nat.lt_succ_self n, z⟩, ?_⟩
      have s2 : Same F F2 := sF.trans x2.fz
      refine hb k F2 H2 σ' bs' vs' ρ' c2 _ w2 (e'.step x2) (all2_st x2.fz al') ((mb _).mono c2 (fun t c3 z => ?_) (fun _ z => z) z)
      cases t with
      | nx ρ4 => exact fun F4 H4 σ4 vs4 s4 w4 e4 al4 => ⟨F4, ρ4.2, ρ4.1, c3, s2.trans s4, w4, e4, al4, z⟩
      | ct ρ4 => exact fun F4 H4 σ4 vs4 s4 w4 e4 al4 => ⟨F4, ρ4.2, ρ4.1, c3, s2.trans s4, w4, e4, al4, z⟩
      | bk ρ4 => exact fun F4 H4 σ4 vs4 s4 w4 e4 al4 => z F4 H4 σ4 vs4 (s2.trans s4) w4 e4 al4
      | rt b => exact fun F4 H4 vs4 s4 w4 al4 => z F4 H4 vs4 (s2.trans s4) w4 al4
theorem y_pre {t : TGn} {f : Γ → Γ'} {m : List β × Γ' → M (Ct (List β × Γ'') (List β × Δ) (List β))} (w : Wk E E' f) (h : SY μ E' E'' El R t m) : SY μ E E'' El R t fun z => m (z.1, f z.2) := fun k F H σ bs vs ρ c D wo e al q => by
  obtain ⟨F', s', w', e'⟩ := w k F H σ ρ c wo e
  exact h k F' H σ bs vs (f ρ) c D w' e' (all2_st s' al) (wp_imp q fun _ _ z => z.fz s')
theorem y_post {t : TGn} {f : Γ' → Γ''} {m : List β × Γ → M (Ct (List β × Γ') (List β × Δ) (List β))} (h : SY μ E E' El R t m) (wk : Wk E' E'' f) : SY μ E E'' El R t fun z => (m z).thn fun z' => .ret (.nx (z'.1, f z'.2)) := fun k F H σ bs vs ρ c D w e al q =>
  h k F H σ bs vs ρ c D w e al (wp_imp q fun t c1 z => by
    cases t with
    | nx ρ' =>
      intro F1 H1 σ1 vs1 s1 w1 e1 al1
      obtain ⟨F', s', w', e'⟩ := wk k F1 H1 σ1 ρ'.2 c1 w1 e1
      exact z F' H1 σ1 vs1 (s1.trans s') w' e' (all2_st s' al1)
    | rt b => exact z
    | bk d => exact z
    | ct d => exact z)
/-- the promise of a generator def -/
def spOfG (S : RA α) (R : Rp β) (m : α → M (List β)) : SpG := fun vs H cont _ => ∃ F a, Same F H ∧ S.r F vs a ∧
  (m a).wp 0 (fun bs _ => ∀ ys F' H', ExtX none F H F' H' → All2 (R.r F') ys bs → cont ys H') (fun _ => False)
theorem spOfG_len {S : RA α} {m : α → M (List β)} {vs : List V} {H : Hp} {Q : List V → Hp → Prop} {X : XK} (h : spOfG S R m vs H Q X) : vs.length = S.n := by
  obtain ⟨F, a, _, r, _⟩ := h
  exact S.len r
/-- what a generator's body gives out -/
def M.gK : Ct (List β × Γ) (List β × Δ) (List β) → M (List β)
  | .nx z => .ret z.1
  | .rt bs => .ret bs
  | _ => M.none
def M.gen (m : M (Ct (List β × Γ) (List β × Δ) (List β))) : M (List β) := m.bind M.gK
theorem fn_bodyG {S : RA α} {n : Nat} {ρ0 : α → Γ} {N : List Str} {t : TGn} {mb : List β × Γ → M (Ct (List β × Γ') (List β × Unit) (List β))} (h0 : St0 S n E ρ0) (hn : N.length = S.n + n) (hb : SY md0 E E' eNil R t mb) {vs : List V} {H : Hp} {Q : List V → Hp → Prop} {X : XK}
    (hs : spOfG S R (fun a => M.gen (mb ([], ρ0 a))) vs H Q X) : t { nx := fun ys _ H' => Q ys H', rt := fun ys v H' => v = .non ∧ Q ys H' } [] (L2.start N vs) H := by
  obtain ⟨F, a, s, r, h⟩ := hs
  rw [start_eq (n := n) (by rw [hn, S.len r])]
  refine hb ⟨none, F, H⟩ F H _ [] [] (ρ0 a) 0 _ ⟨s, ExtX.refl s, fun _ e => nomatch e⟩ ⟨h0.r r, by rw [h0.ow]; exact List.nodup_nil⟩ .nil ?_
  refine (mb ([], ρ0 a)).mono 0 (fun t c z => ?_) (fun er z => z.elim) h
  cases t with
  | nx z' => exact fun F' H' σ' vs' _ w _ al => z vs' F' H' w.ext al
  | rt b => exact fun F' H' vs' _ w al => ⟨rfl, z vs' F' H' w.ext al⟩
  | bk _ => exact z.elim
  | ct _ => exact z.elim
/-- list(f(..)), f a generator def -/
theorem n_listG {S : RA α} {ta : TA} {ma : Γ → M α} {m : α → M (List β)} (ha : SA md0 E S ta ma) : SN md0 E R (tListG (L2.tCallG (spOfG S R m) [] E0 ta)) fun ρ => (ma ρ).bind fun a => (m a).still := fun k F H σ ρ c Q w e h =>
  ha k F H σ ρ c _ w e (wp_imp h fun a c1 q vs F1 H1 x1 w1 r1 => by
    show spOfG S R m (vs ++ []) H1 _ E0
    rw [List.append_nil]
    refine ⟨F1, a, w1.sub, r1, (m a).mono 0 (fun bs _ z ys F' H' x al p np => ?_) (fun _ z => XP.no w1 z) q⟩
    exact VN.newL (w1.call x).2 (VN.ext (x1.trans (w1.call x).1) z) np al)
end
/-! ### generator defs by their bodies, and as the top has them -/
section
variable {P : Program} {w : World} {K : PySem.W.Frag} {mg : Str → Option Value} {base : Heap}
theorem Fun.gen {x qual : Str} {st : Stmt} {f : Addr} {fd : FuncData} {N ps : List Str} {k : Nat} {sp : SpG} (F : L2.Fun K x qual st f fd) (S : GScope N ps (defScope st)) (len : ∀ vs H Q E, sp vs H Q E → vs.length = ps.length)
    (hbody : ∀ (cdv : Value) (A : Around) (outer : List Env) (s : Shared) (H : Hp) (vs : List V) (Q : List V → Hp → Prop) (E : XK) (pn : List (Addr × Obj)), Room k (A.deeper (envOfC qual (defScope st) s.heap.objs.size f cdv)) → sp vs H Q E →
      ∃ t, GSs (gcxOf P w K mg base N qual (defScope st) f cdv A outer s H E pn) (defBody st) t ∧ t { nx := fun ys _ H' => Q ys H', rt := fun ys v H' => v = .non ∧ Q ys H' } [] (start N vs) H) : GFn P w K mg base (k + 1) f fd ps sp := by
  obtain ⟨oc, od, kV, doc, pm, an, cdv, ct, osl, rfl, lk, hcd⟩ := F.ex
  exact gfn_of lk hcd S len fun A outer s H vs Q E pn hr hsp => hbody cdv A outer s H vs Q E pn hr hsp
structure GGn (P : Program) (w : World) (K : PySem.W.Frag) (mg : Str → Option Value) (base : Heap) (x : Str) (k : Nat) (sp : SpG) : Prop where
  ex : ∃ f fd ps, mg x = some (.ref f) ∧ PySem.W.keepIn K (.ref f) = true ∧ L2.Binds K fd ps [] ∧ GFn P w K mg base k f fd ps sp
theorem pe_listGn {X : Cx} {x : Str} {k : Nat} {sp : SpG} {e : Expr} {es : List Expr} {t : TA} {p p2 pos pos' : Pos} (G : GGn X.prog X.w X.K X.mg X.base x k sp) (hr : Room (k + 3) X.A) (ha : PA X (e :: es) t) (hml : X.mg "list" = none) (gl : Gl X x := by rfl) (gl2 : Gl X "list" := by rfl)
    (hdb : (x == ("__debug__" : Str)) = false := by decide) (he : starEach (e :: es) X.env = (false, eval e X.env) :: starEach es X.env := by rfl) (hpl : (backTo pos' (starEach es X.env)).any (·.1) = false := by rfl)
    (he2 : starEach [.Call (.Name x p) (e :: es) [] pos'] X.env = (false, eval (.Call (.Name x p) (e :: es) [] pos') X.env) :: starEach [] X.env := by rfl) : PE X (.Call (.Name "list" p2) [.Call (.Name x p) (e :: es) [] pos'] [] pos) (tListG (L2.tCallG sp [] E0 t)) := by
  obtain ⟨f, fd, ps, h1, h2, h3, h4⟩ := G.ex
  exact pe_listG (pgen_call h4 (hr.mono (by omega)) gl h1 h2 h3 .nil ha hdb he hpl) (fun _ _ _ _ _ _ _ h => by obtain ⟨_, _, _, _, _, _, _, _, _, _, _, _, z⟩ := h; exact z.elim) (fun _ _ _ z => z.elim) hr gl2 hml (by rfl)
end
end PF

set_option Elab.async false
set_option linter.all false
set_option maxRecDepth 100000
set_option maxHeartbeats 1000000
namespace PF
open PySem PySem.Spec PyProof.Rows L2 SlX
/-! ### a dict laid into another (keys by value) -/
section
variable {prog : Program} {w : World} {κ : Type} [DecidableEq κ] {knd : KeyKind prog w κ} {A : Around} {E : Value → Shared → Prop} {s : Shared}
theorem dictPut_pairs {d : Addr} {kvs : List (κ × Value)} {k : κ} {key v : Value} {Q : Unit → Shared → Prop} (hkey : knd.is k key = true) (hm : s.heap.DictOf knd d kvs)
    (hQ : ∀ h', h'.DictOf knd d (stored kvs k v) → Heap.SameBut d s.heap h' → Q () { s with heap := h' })
    (hsz : kvs.length ≤ sizeLine) : wpAny (model prog w) A (dictPut d (knd.hash k) key v) Q E s := by
  obtain ⟨o, es, ep, ho, hc, hd, hk, hp, hn⟩ := hm
  have hes : es.size ≤ sizeLine := by
    have e1 := hp.length
    have e2 : es.toList.length = es.size := by simp
    omega
  unfold dictPut
  refine wpAny_bind (wpAny_dictFind_of hkey ho hd hk ?_)
  have hidx : (es.findIdx? fun e => knd.is k e.key) = kvs.findIdx? fun kv => decide (kv.1 = k) := by
    rw [← hp.findIdx k]; obtain ⟨l⟩ := es; simp
  cases hi : es.findIdx? fun e => knd.is k e.key with
  | some i =>
    refine wpAny_updateDict ho hd (hQ _ ⟨_, _, ep, Heap.get?_update_self _ ho (Obj.isFreed_of_dict (Obj.data_mapDict hd _)),
      hc.mapDict _, Obj.data_mapDict hd _, hk.modify _ _, ?_, ?_⟩ (Heap.SameBut.update ..))
    · rw [stored, if_pos (any_of_findIdx_some (hidx ▸ hi))]
      have hl : (es.toList.findIdx? fun e => knd.is k e.key) = some i := by rw [← hi]; obtain ⟨l⟩ := es; simp
      have := hp.modify hn hl v
      obtain ⟨l⟩ := es
      simpa using this
    · rw [stored, if_pos (any_of_findIdx_some (hidx ▸ hi)), keys_map_store]; exact hn
  | none =>
    have hnot : k ∉ kvs.map (·.1) := not_mem_of_findIdx_none (hidx ▸ hi)
    have hany : ¬ (kvs.any fun kv => decide (kv.1 = k)) = true := by
      rw [List.any_eq_true]; rintro ⟨kv, hkv, he⟩
      exact hnot (List.mem_map.mpr ⟨kv, hkv, of_decide_eq_true he⟩)
    refine wpAny_updateDictKeys (hz := hes) ho hd (hQ _ ⟨_, _, ep + 1, Heap.get?_update_self _ ho (Obj.isFreed_of_dict (Obj.data_mapDictKeys hd _)),
      hc.mapDictKeys _, Obj.data_mapDictKeys hd _, hk.push hkey _, ?_, ?_⟩ (Heap.SameBut.update ..))
    · rw [stored, if_neg hany]
      have := hp.append hkey (knd.hash k) v
      obtain ⟨l⟩ := es
      simpa using this
    · rw [stored, if_neg hany, List.map_append, List.nodup_append]
      refine ⟨hn, by simp, ?_⟩
      intro a ha b hb
      simp only [List.map_cons, List.map_nil, List.mem_singleton] at hb
      subst hb
      exact fun e => hnot (e ▸ ha)
theorem mergeMapping_pairs {d o : Addr} {kvs more : List (κ × Value)} {Q : Unit → Shared → Prop} (hdo : d ≠ o) (hoS : (o == sysModules) = false) (nr : ∀ k a, knd.is k (.ref a) = false)
    (hd : s.heap.DictOf knd d kvs) (ho : s.heap.DictOf knd o more)
    (hQ : ∀ h', h'.DictOf knd d (merged kvs more) → Heap.SameBut d s.heap h' → Q () { s with heap := h' })
    (hsz : kvs.length + more.length ≤ sizeLine) : wpAny (model prog w) A (mergeMapping d (.ref o) false) Q E s := by
  obtain ⟨od, esd, epd, hod, hcd, hdd, hkd, hpd, hnd⟩ := id hd
  obtain ⟨oo, eso, epo, hoo, hco, hdo', hko, hpo, hno⟩ := id ho
  have hlen : more.length = eso.size := by rw [← hpo.length]; simp
  unfold mergeMapping
  have loop : wpAny (model prog w) A (do
      let es ← dictEntries o
      let size := es.size
      let epoch ← dictEpoch o
      forIn (List.range size) PUnit.unit fun i (_ : PUnit) => (do
          let l' ← dictEntries o
          match l'[i]? with
            | some e => do
              holding [e.key, e.val] (dictPut d e.hash e.key e.val)
              let ep' ← dictEpoch o
              if (ep' != epoch) = true then do
                  (unsupported "dict.changed-during-merge" : Sem PUnit)
                  pure (ForInStep.yield PUnit.unit)
                else pure (ForInStep.yield PUnit.unit)
            | _ => do
              (unsupported "dict.changed-during-merge" : Sem PUnit)
              pure (ForInStep.yield PUnit.unit) : Sem (ForInStep PUnit))
      pure ()) Q E s := by
    refine wpAny_bind (wpAny_dictEntries hoo hdo' ?_)
    refine wpAny_bind (wpAny_dictEpoch hoo hdo' ?_)
    refine wpAny_bind ?_
    rw [List.range_eq_range']
    refine wpAny_forIn_list _
      (fun rest _ s' => ∃ h' i, s' = { s with heap := h' } ∧ rest = List.range' i (eso.size - i) ∧ i ≤ eso.size ∧ h'.DictOf knd d (merged kvs (more.take i)) ∧ h'.get? o = some oo ∧ Heap.SameBut d s.heap h')
      _ ?_ ?_ _ _ ⟨s.heap, 0, rfl, by simp, Nat.zero_le _, by simpa [merged] using hd, hoo, Heap.SameBut.refl _ _⟩
    · rintro x rest b s' ⟨h', i, rfl, hr, hi, hd', hoo', hs'⟩
      have hlt : i < eso.size := by
        rcases Nat.lt_or_ge i eso.size with h | h
        · exact h
        · rw [Nat.sub_eq_zero_of_le h] at hr; simp at hr
      obtain ⟨rfl, hrest⟩ : x = i ∧ rest = List.range' (i + 1) (eso.size - (i + 1)) := by
        have e : eso.size - i = (eso.size - (i + 1)) + 1 := by omega
        rw [e, List.range'_succ] at hr
        injection hr with h1 h2
        exact ⟨h1, h2⟩
      refine wpAny_bind (wpAny_dictEntries hoo' hdo' ?_)
      rw [Array.getElem?_eq_getElem hlt]
      obtain ⟨kv, hkv⟩ : ∃ kv, more[x]? = some kv := ⟨more[x]'(by rw [hlen]; exact hlt), List.getElem?_eq_getElem _⟩
      obtain ⟨k, v⟩ := kv
      obtain ⟨hkey, hval⟩ := hpo.get? (e := eso[x]) (by simp [hlt]) hkv
      obtain ⟨k', hkey', hhash⟩ := hko eso[x] (Array.getElem_mem hlt)
      obtain rfl : k' = k := knd.inj _ _ _ hkey' hkey
      show wpAny _ _ (holding [eso[x].key, eso[x].val] (dictPut d eso[x].hash eso[x].key eso[x].val) >>= _) _ _ _
      rw [hhash, hval]
      have hmx : (merged kvs (more.take x)).length ≤ sizeLine := by
        have e1 := merged_length_le kvs (more.take x)
        have e2 : (more.take x).length ≤ more.length := by rw [List.length_take]; omega
        omega
      refine wpAny_bind (wpAny_holding (dictPut_pairs (hsz := hmx) hkey hd' fun h'' hd'' hs'' => ?_))
      have hoo'' : h''.get? o = some oo := (hs''.2 o (Ne.symm hdo)).trans hoo'
      refine wpAny_bind (wpAny_dictEpoch hoo'' hdo' ?_)
      rw [if_neg (by simp)]
      exact wpAny_pure ⟨h'', x + 1, rfl, hrest, hlt, by rw [merged_take_succ kvs more x (k', v) hkv]; exact hd'', hoo'', hs'.trans hs''⟩
    · rintro b s' ⟨h', i, rfl, hr, hi, hd', hoo', hs'⟩
      have hin : i = eso.size := by
        rcases Nat.lt_or_ge i eso.size with h | h
        · have e : eso.size - i = (eso.size - (i + 1)) + 1 := by omega
          rw [e, List.range'_succ] at hr; exact nomatch hr
        · exact Nat.le_antisymm hi h
      refine wpAny_pure (hQ h' ?_ hs')
      rw [hin, ← hlen, List.take_length] at hd'; exact hd'
  refine wpAny_bind (wpAny_isInstance ho.typeIs isSubtype_dict_dict ?_)
  dsimp only
  rw [if_pos rfl]
  refine wpAny_bind (wpAny_specialOf ho.typeIs F.slot_dict_iter.lookup ?_)
  refine wpAny_bind (wpAny_pure ?_)
  simp only [beq_self_eq_true]
  rw [if_neg (by rw [hoS]; exact Bool.false_ne_true)]
  refine wpAny_bind (wpAny_dictEntries hod hdd ?_)
  split
  · refine wpAny_bind (wpAny_dictEntries hoo hdo' ?_)
    refine wpAny_bind ?_
    rw [← Array.forIn_toList]
    refine wpAny_forIn_list _ (fun rest _ s' => s' = s ∧ ∀ e ∈ rest, ∃ k, knd.is k e.key = true) _ ?_ ?_ _ _ ⟨rfl, fun e he => ?_⟩
    · rintro e rest b s' ⟨rfl, hr⟩
      obtain ⟨k, hk⟩ := hr e (List.mem_cons_self ..)
      cases hkk : e.key with
      | ref a => rw [hkk, nr k a] at hk; cases hk
      | _ => exact wpAny_pure ⟨rfl, fun e he => hr e (List.mem_cons_of_mem _ he)⟩
    · rintro _ _ ⟨rfl, _⟩
      exact loop
    · obtain ⟨k, hk, _⟩ := hko e (by simpa using he)
      exact ⟨k, hk⟩
  · exact loop
end
/-! ### {**e, k: v} -/
def tDStar (te tk tv : TE) : TE := fun σ H Q => ∀ d, H d = none → te σ (upd H d (.dK [])) fun x H1 => H1 d = some (.dK []) ∧ ∃ o kvs, x = .ref o ∧ o ≠ d ∧ Rd H1 o (.dK kvs) ∧ kvs.length ≤ 1000 ∧
  ∀ p, (upd H1 d (.dK (mergeK [] kvs))) p = none → tk σ (upd (upd H1 d (.dK (mergeK [] kvs))) p (.dK [])) fun y H2 => tv σ H2 fun z H3 => H3 p = some (.dK []) ∧ H3 d = some (.dK (mergeK [] kvs)) ∧ ∃ key, y = kV key ∧
    Q (.ref d) (upd (upd H3 p (.dK [(key, z)])) d (.dK (putK (mergeK [] kvs) key z)))
theorem mix_nr {P : Program} {w : World} (k : Key) (a : Addr) : (mixKind P w).is k (.ref a) = false := by
  cases h : (mixKind P w).is k (.ref a) with
  | false => rfl
  | true =>
    rcases keyIs_shape h with ⟨i, t, _, e⟩ | ⟨x, t, _, e⟩ <;> exact nomatch e
theorem dict_star {env : Env} {e k v : Expr} {pos : Pos} : eval (.Dict [none, some k] [e, v] pos) env = (do
    standAt pos
    dictDisplay [(none, do let x ← eval e env; standAt pos; pure x), (some (eval k env), do let x ← eval v env; standAt pos; pure x)]) := by
  rw [arm_eval_Dict]
  rfl
theorem pe_dstar {X : Cx} {e k v : Expr} {pos : Pos} {te tk tv : TE} (he : PE X e te) (hk : PE X k tk) (hv : PE X v tv) : PE X (.Dict [none, some k] [e, v] pos) (tDStar te tk tv) := by
  refine ⟨fun pins s σ H Q I h => ?_⟩
  rw [dict_star]
  refine wpAny_bind (wpAny_standAt ?_)
  unfold dictDisplay
  dsimp only
  rw [List.forIn_cons]
  dsimp only
  rw [if_pos (show ([] : List (Sem Value × Sem Value)).isEmpty = true from rfl)]
  have hn := I.hok.fresh (Nat.le_refl s.heap.objs.size)
  have I1 := I.laid (a := s.heap.objs.size) (o := .dK []) (h' := s.heap.push { cls := .type "dict", data := .dict #[] }) (t' := s.toks) (fun _ _ q => Heap.get?_push_of_some _ q) (Nat.le_refl _) (dk_empty s.heap I.big)
  refine wpAny_bind (wpAny_bind (wpAny_bind (wpAny_pure ?_)))
  refine wpAny_bind (wpAny_alloc ?_)
  refine wpAny_bind (wpAny_holding (wpAny_bind ?_))
  refine thn (he.run pins _ σ _ _ I1 (h _ hn)) fun u s1 ⟨x, H1, I1', rx, q0, o, kvs, ex, od, ro, hl, q1⟩ => ?_
  subst ex
  obtain rfl : u = Value.ref o := rx
  obtain ⟨z0, hd0, vs0, r0, dd0⟩ := dk_of I1'.hok q0
  cases r0
  obtain ⟨zo, hdo, vso, rso, ddo⟩ := dk_rd I1'.hok ro
  have lvs : vso.length = kvs.length := (Paired.length rso).symm
  have ln : (mergeK [] kvs).length ≤ 1000 := by
    have := length_mergeK kvs []
    rw [List.length_nil] at this; omega
  refine wpAny_bind (wpAny_standAt (wpAny_pure ?_))
  refine wpAny_bind (wpAny_onRaise (wpAny_tryCatch (wpAny_onRaise (wpAny_holding (mergeMapping_pairs (Ne.symm od) hdo mix_nr dd0 ddo (fun h2 dd2 sb2 => ?_) (by rw [List.length_nil, lvs, sizeLine_eq]; omega))))))
  have he2 : ∃ q, h2.get? s.heap.objs.size = some q := let ⟨q, _, _, hq, _⟩ := dd2; ⟨q, hq⟩
  have I2 := d_write (t' := s1.toks) I1' (by rw [q0]; exact True.intro) sb2 he2 (dk_new (by rw [sizeLine_eq]; omega) hd0 (KV.merge rso .nil) dd2)
  refine wpAny_pure ?_
  dsimp only
  rw [List.forIn_cons]
  dsimp only
  refine wpAny_bind ?_
  show wpAny _ _ (pure (ForInStep.yield (some s.heap.objs.size, [(eval k X.env, do let x ← eval v X.env; standAt pos; pure x)])) : Sem (ForInStep (Option Addr × List (Sem Value × Sem Value)))) _ _ _
  refine wpAny_pure ?_
  dsimp only
  rw [List.forIn_nil]
  refine wpAny_pure ?_
  dsimp only
  refine wpAny_bind ?_
  show wpAny _ _ (do
    let sub ← holding [Value.ref s.heap.objs.size] (subDict [(eval k X.env, do let x ← eval v X.env; standAt pos; pure x)])
    (holding [Value.ref s.heap.objs.size, Value.ref sub] (mergeMapping s.heap.objs.size (Value.ref sub) false)).onRaise fun x => do let _ ← holding [Value.ref s.heap.objs.size, x] (runValue (Code.builtin "proto.let_go" { }))
    pure (some s.heap.objs.size)) _ _ _
  refine wpAny_bind (wpAny_holding ?_)
  have hn2 := I2.hok.fresh (Nat.le_refl h2.objs.size)
  have I3 := I2.laid (a := h2.objs.size) (o := .dK []) (h' := h2.push { cls := .type "dict", data := .dict #[] }) (t' := s1.toks) (fun _ _ q => Heap.get?_push_of_some _ q) (Nat.le_refl _) (dk_empty h2 I2.big)
  refine wpAny_subDict (knd := mixKind X.prog X.w) (by simp) ?_
  refine evalPairs_cons ?_
  refine thn (hk.run pins _ σ _ _ I3 (q1 _ hn2)) fun uk s3 ⟨y, H3, I3', ry, q3⟩ => ?_
  refine wpAny_bind (thn (hv.run pins _ σ _ _ I3' q3) fun uv s4 ⟨z, H4, I4, rz, e1, e2, key, ey, q4⟩ => ?_)
  refine wpAny_bind (wpAny_standAt (wpAny_pure (evalPairs_nil ?_)))
  subst ey
  have nep : s.heap.objs.size ≠ h2.objs.size := fun z => by
    have hn2' : upd H1 s.heap.objs.size (HO.dK (mergeK [] kvs)) h2.objs.size = none := hn2
    rw [← z, upd_same] at hn2'; cases hn2'
  obtain ⟨rs, cr, rk⟩ := carries_of (P := X.prog) (w := X.w) (kvs := [(key, z)]) (ws := [(uk, uv)]) (.cons ⟨ry, rz⟩ .nil)
  obtain ⟨zp, hdp, vsp, rp, ddp⟩ := dk_of I4.hok e1
  cases rp
  refine ⟨rs, cr, ddp, fun h5 dd5 sb5 => ?_⟩
  have he5 : ∃ q, h5.get? h2.objs.size = some q := let ⟨q, _, _, hq, _⟩ := dd5; ⟨q, hq⟩
  have I5 := d_write (t' := s4.toks + [(uk, uv)].length) I4 (by rw [e1]; exact True.intro) sb5 he5 (dk_new (kvs := [(key, z)]) (by rw [sizeLine_eq, List.length_singleton]; decide) hdp (rk.merge .nil) dd5)
  have e2' : upd H4 h2.objs.size (HO.dK [(key, z)]) s.heap.objs.size = some (.dK (mergeK [] kvs)) := by rw [upd_ne nep]; exact e2
  obtain ⟨zd, hdd, vsd, rd, ddd⟩ := dk_of I5.hok e2'
  obtain ⟨_, hdp', vsp', rp', ddp'⟩ := dk_of I5.hok (upd_same (H := H4) (a := h2.objs.size) (o := HO.dK [(key, z)]))
  have l1 : vsd.length = (mergeK [] kvs).length := (Paired.length rd).symm
  have l2 : vsp'.length = 1 := (Paired.length rp').symm
  refine wpAny_bind (wpAny_onRaise (wpAny_holding (mergeMapping_pairs nep hdp' mix_nr ddd ddp' (fun h6 dd6 sb6 => ?_) (by rw [l1, l2, sizeLine_eq]; omega))))
  have he6 : ∃ q, h6.get? s.heap.objs.size = some q := let ⟨q, _, _, hq, _⟩ := dd6; ⟨q, hq⟩
  have lp := length_putK (mergeK [] kvs) key z
  exact wpAny_pure (wpAny_pure ⟨.ref s.heap.objs.size, _, d_write (t' := s4.toks + [(uk, uv)].length) I5 (by rw [e2']; exact True.intro) sb6 he6 (dk_new (kvs := putK (mergeK [] kvs) key z) (by rw [sizeLine_eq]; omega) hdd (KV.merge rp' rd) dd6), rfl, q4⟩)
section
variable {Γ α β κ : Type} {μ : Md} {E : EV Γ} {Rb : Rp β} {Rk : Rp κ} {kf : κ → Key} [DecidableEq κ]
theorem AllD.mergeK {f : V → β → Prop} (inj : ∀ {a b : κ}, kf a = kf b → a = b) {kvs : List (Key × V)} {l : List (κ × β)} (h : AllD kf f kvs l) : ∀ {acc : List (Key × V)} {l0 : List (κ × β)}, AllD kf f acc l0 → AllD kf f (L2.mergeK acc kvs) (dmerge l0 l) := by
  induction h with
  | nil => exact fun h => h
  | @cons v k a kvs l r t ih => exact fun h => ih (h.put inj k r)
/-- {**e, k: v} -/
theorem e_dstar {te tk tv : TE} {md : Γ → M (List (κ × β))} {mk : Γ → M κ} {mv : Γ → M β} (ky : KyR Rk kf) (hd : SE μ E (rDct kf Rb) te md) (hk : SE μ E Rk tk mk) (hv : SE μ E Rb tv mv) :
    SE μ E (rDct kf Rb) (tLk (tDStar te tk tv)) fun ρ => (md ρ).bind fun l => .need (l.length ≤ 1000) ((mk ρ).bind fun x => (mv ρ).bind fun y => .ret (dput (dmerge [] l) x y)) := fun k F H σ ρ c Q w e h D nD => by
  have nD0 := w.h0 nD
  have nDF : F D = none := w.sub.free nD
  have now : D ∉ E.owns σ := fun z => (E.has e.r z).1 nD
  have np : k.p ≠ some D := w.np nD0
  have x0 : ExtX k.p F H F (upd H D (.dK [])) := (ExtX.refl w.sub).mod nD nDF
  have e0 : EI k E F (upd H D (.dK [])) σ ρ := e.upd now (.inl nD)
  refine hd k F _ σ ρ c _ (w.mod nD0 nDF) e0 (wp_imp h fun l c1 ⟨hl, q⟩ v F1 H1 x1 w1 ⟨o, kvs, od, ev, hp, al⟩ => ?_)
  have h1 : H1 D = some (.dK []) := x1.hp D _ np upd_same
  have f1 : F1 D = none := (x1.old D (some_ne upd_same)).trans nDF
  refine ⟨h1, o, kvs, ev, (fun z => by rw [z, f1] at hp; cases hp), .inr ⟨od, w1.sub _ _ hp⟩, by rw [al.len]; exact hl, fun P nP => ?_⟩
  have al1 : AllD kf (Rb.r F1) (mergeK [] kvs) (dmerge [] l) := AllD.mergeK ky.inj al .nil
  have ne : P ≠ D := fun z => by rw [z, upd_same] at nP; cases nP
  have x1m := (x0.trans x1).mod (o := .dK (mergeK [] kvs)) nD f1
  have w1m := w1.mod (o := .dK (mergeK [] kvs)) nD0 f1
  have e1m : EI k E F1 (upd H1 D (.dK (mergeK [] kvs))) σ ρ := (e0.step x1).upd now (.dK h1)
  have nPH : H P = none := by
    cases z : H P with
    | none => rfl
    | some o => exact absurd nP (x1m.on P (by rw [z]; simp))
  have nP0 := w.h0 nPH
  have fP : F1 P = none := w1m.sub.free nP
  have npP : k.p ≠ some P := w.np nP0
  have nowP : P ∉ E.owns σ := fun z => (E.has e.r z).1 nPH
  have x2m := x1m.mod (o := .dK []) nPH fP
  refine hk k F1 _ σ ρ c1 _ (w1m.mod nP0 fP) (e1m.upd nowP (.inl nP)) (wp_imp q fun ka c2 q y F2 H2 x2 w2 r2 => ?_)
  refine hv k F2 H2 σ ρ c2 _ w2 ((e1m.upd nowP (.inl nP)).step x2) (wp_imp q fun ya c3 q z F3 H3 x3 w3 r3 => ?_)
  have x23 := x2.trans x3
  have eD : upd (upd H1 D (.dK (mergeK [] kvs))) P (.dK []) D = some (.dK (mergeK [] kvs)) := by rw [upd_ne (Ne.symm ne)]; exact upd_same
  have h3P : H3 P = some (.dK []) := x23.hp P _ npP upd_same
  have h3D : H3 D = some (.dK (mergeK [] kvs)) := x23.hp D _ np eD
  have f3D : F3 D = none := (x23.old D (some_ne eD)).trans f1
  have f3P : F3 P = none := (x23.old P (some_ne upd_same)).trans fP
  refine ⟨h3P, h3D, kf ka, ky.v r2, D, .dK (putK (mergeK [] kvs) (kf ka) z), rfl, upd_same, trivial, fun od2 => ?_⟩
  have X5 := ((x2m.trans x23).mod (o := .dK [(kf ka, z)]) nPH f3P).mod (o := .dK (putK (mergeK [] kvs) (kf ka) z)) nD f3D
  have W5 := (w3.mod (o := .dK [(kf ka, z)]) nP0 f3P).mod (o := .dK (putK (mergeK [] kvs) (kf ka) z)) nD0 f3D
  obtain ⟨x6, w6, s6⟩ := W5.letgo (o := .frz od2 (.dK (putK (mergeK [] kvs) (kf ka) z))) X5 nD nD0 f3D
  have al3 : AllD kf (Rb.r F3) (mergeK [] kvs) (dmerge [] l) := al1.imp fun _ _ g => Rb.st x23.fz g
  exact q (.ref D) _ _ x6 w6 ⟨D, _, od2, rfl, upd_same, (al3.put ky.inj ka r3).imp fun _ _ g => Rb.st s6 g⟩
/-- {}, a dict of these kinds -/
theorem e_dnewD : SE μ E (rDct kf Rb) (tLk tDNewK) fun _ => .ret [] := fun k F H σ ρ c Q w e h D nD => by
  have nD0 := w.h0 nD
  have nDF : F D = none := w.sub.free nD
  refine ⟨D, .dK [], rfl, upd_same, trivial, fun od => ?_⟩
  obtain ⟨x6, w6, s6⟩ := (w.mod (o := .dK []) nD0 nDF).letgo (o := .frz od (.dK [])) ((ExtX.refl w.sub).mod nD nDF) nD nD0 nDF
  exact h (.ref D) _ _ x6 w6 ⟨D, [], od, rfl, upd_same, .nil⟩
end
end PF

set_option Elab.async false
set_option linter.all false
set_option maxRecDepth 100000
set_option maxHeartbeats 1000000
namespace PF
open PySem PySem.Spec PyProof.Rows L2 SlX
/-! ### xs != [], whatever the items -/
def rNeNil (K : PySem.W.Frag) : R2 := fun x y H Q => ∃ a b xs, x = .ref a ∧ y = .ref b ∧ SqL K H a xs ∧ SqL K H b [] ∧ Q (.bl (!xs.isEmpty)) H
theorem op_neNil {X : Cx} (hu : X.A.units < cLine) : OpR X (compareOp .NotEq) (rNeNil X.K) := by
  intro pins s σ H x y v u Q I rx ry h
  obtain ⟨a, b, xs, rfl, rfl, ha, hb, q⟩ := h
  cases (show v = Value.ref a from rx)
  cases (show u = Value.ref b from ry)
  obtain ⟨its, rv, pl, _⟩ := I.list ha
  obtain ⟨its2, rv2, pl2, _⟩ := I.list hb
  cases rv2
  have fin : ∀ bb, bb = (!xs.isEmpty) → SeqAt.RcNeAt X.A s (.ref a) (.ref b) bb → wpAny (model X.prog X.w) X.A (compareOp .NotEq (.ref a) (.ref b)) (EP X pins σ Q) X.xe s := fun bb e r => r _ _ _ _ ⟨.bl bb, H, I, rfl, e ▸ q⟩
  have cv : ∀ {l : Addr} {xs : Array Value}, PlainL s.heap l xs → s.heap.IsList l xs := fun ⟨o, n, e, h1, h2, h3⟩ => ⟨o, e, h1, n, h3⟩
  have pl := cv pl
  have pl2 := cv pl2
  cases rv with
  | nil => exact fin _ rfl (SeqAt.RcNeAt.lists (e := fun _ => true) pl pl2 rfl hu (fun j h1 _ => absurd h1 (Nat.not_lt_zero _)))
  | cons r t => exact fin _ rfl (SeqAt.RcNeAt.lists_lengths pl pl2 (by simp) hu)
section
variable {Γ α β γ : Type} {μ : Md} {E : EV Γ} {Ra : Rp α} {K : PySem.W.Frag}
theorem e_neNilO {i : Nat} {g : Γ → List α} {put : Γ → List α → Γ} (hm : ModS E i Ra g put) : SE μ E rBl (tOp (rNeNil K) (tVar i) (tLst tNil)) fun ρ => .ret (!(g ρ).isEmpty) := fun k F H σ ρ c Q w e h => by
  obtain ⟨p, vs, h1, h2, h3, h4⟩ := hm.get e.r
  refine ⟨.ref p, h1, ?_⟩
  refine ⟨Nat.zero_le _, fun b nb => ⟨p, b, vs, rfl, rfl, .inl (.inl ?_), .inl (.inl upd_same), ?_⟩⟩
  · rw [upd_ne (fun z => by rw [z, nb] at h2; cases h2)]; exact h2
  · have e2 : (!vs.isEmpty) = !(g ρ).isEmpty := by
      have := h3.len
      cases vs with
      | nil => cases hg : g ρ with
        | nil => rfl
        | cons _ _ => rw [hg] at this; cases this
      | cons _ _ => cases hg : g ρ with
        | nil => rw [hg] at this; cases this
        | cons _ _ => rfl
    rw [e2]
    exact h _ F _ (ExtX.own w.sub nb _) (w.own nb _) rfl
/-! ### rows of one kind, of any length: (*xs, y, *zs) -/
def SAL (μ : Md) (E : EV Γ) (R : Rp α) (ta : TA) (m : Γ → M (List α)) : Prop := ∀ (k : Cn) (F H : Hp) (σ : L2.St) (ρ : Γ) (c : Nat) (Q : List V → Hp → Prop), Wo k F H c → EI k E F H σ ρ →
  (m ρ).wp c (fun xs c' => ∀ vs F' H', ExtX k.p F H F' H' → Wo k F' H' c' → All2 (R.r F') vs xs → Q vs H') (XP μ k) → ta σ H Q
theorem al_nil : SAL μ E Ra tNil fun _ => .ret [] := fun k F H σ ρ c Q w e h => h [] F H (ExtX.refl w.sub) w .nil
theorem al_cons {te : TE} {ta : TA} {m : Γ → M α} {ma : Γ → M (List α)} (he : SE μ E Ra te m) (ha : SAL μ E Ra ta ma) : SAL μ E Ra (tCons te ta) fun ρ => (m ρ).bind fun x => (ma ρ).bind fun xs => .ret (x :: xs) := fun k F H σ ρ c Q w e h =>
  he k F H σ ρ c _ w e (wp_imp h fun a c1 q v F1 H1 x1 w1 r1 => ha k F1 H1 σ ρ c1 _ w1 (e.step x1) (wp_imp q fun xs c2 q vs F2 H2 x2 w2 r2 => q (v :: vs) F2 H2 (x1.trans x2) w2 (.cons (Ra.st x2.fz r1) r2)))
theorem al_starT {te : TE} {ta : TA} {m : Γ → M (List α)} {ma : Γ → M (List α)} (he : SE μ E (rTup K Ra) te m) (ha : SAL μ E Ra ta ma) : SAL μ E Ra (StX.tStar K te ta) fun ρ => (m ρ).bind fun x => (ma ρ).bind fun xs => .ret (x ++ xs) := fun k F H σ ρ c Q w e h =>
  he k F H σ ρ c _ w e (wp_imp h fun a c1 q v F1 H1 x1 w1 ⟨p, vs0, ev, hp, al⟩ => ⟨p, vs0, ev, .inl (same_seqT w1.sub hp), ha k F1 H1 σ ρ c1 _ w1 (e.step x1) (wp_imp q fun xs c2 q vs F2 H2 x2 w2 r2 => q (vs0 ++ vs) F2 H2 (x1.trans x2) w2 ((al.imp fun _ _ g => Ra.st x2.fz g).append r2))⟩)
theorem al_starL {te : TE} {ta : TA} {m : Γ → M (List α)} {ma : Γ → M (List α)} (he : SE μ E (rLs Ra) te m) (ha : SAL μ E Ra ta ma) : SAL μ E Ra (StX.tStar K te ta) fun ρ => (m ρ).bind fun x => (ma ρ).bind fun xs => .ret (x ++ xs) := fun k F H σ ρ c Q w e h =>
  he k F H σ ρ c _ w e (wp_imp h fun a c1 q v F1 H1 x1 w1 ⟨p, vs0, ev, hp, al⟩ => ⟨p, vs0, ev, .inr (.of (w1.sub _ _ hp)), ha k F1 H1 σ ρ c1 _ w1 (e.step x1) (wp_imp q fun xs c2 q vs F2 H2 x2 w2 r2 => q (vs0 ++ vs) F2 H2 (x1.trans x2) w2 ((al.imp fun _ _ g => Ra.st x2.fz g).append r2))⟩)
theorem e_tupL {ta : TA} {ma : Γ → M (List α)} (ha : SAL μ E Ra ta ma) : SE μ E (rTup K Ra) (tTup ta) fun ρ => (ma ρ).bind fun xs => .need (xs.length ≤ sizeLine) (.ret xs) := fun k F H σ ρ c Q w e h =>
  ha k F H σ ρ c _ w e (wp_imp h fun xs c1 ⟨hl, q⟩ vs F1 H1 x1 w1 r1 => ⟨by rw [r1.len]; exact hl, fun p np => by
    have x2 := ExtX.new (p := k.p) w1.sub np (.tup vs)
    exact q (.ref p) _ _ (x1.trans x2) (w1.new np _) ⟨p, vs, rfl, .of upd_same, r1.imp fun _ _ g => Ra.st x2.fz g⟩⟩)
/-! ### target = xs.pop(), xs one's own -/
theorem s_pop {Γ' Δ : Type} {E' : EV Γ'} {El : EV Δ} {β : Type} {R : Rp β} {i : Nat} {g : Γ → List α} {put : Γ → List α → Γ} {put' : Γ → α → Γ'} {tg : TG} (hm : ModS E i Ra g put) (hg : SG E Ra tg E' put') :
    SS μ E E' El R (tAsg (tBM0 K "list" rPop (tVar i)) tg) fun ρ => .bind (.the (g ρ).getLast?) fun a => .ret (.nx (put' (put ρ (g ρ).dropLast) a)) := fun k F H σ ρ c D w e h => by
  obtain ⟨a, ea, q⟩ := h
  obtain ⟨p, vs, h1, h2, h3, h4⟩ := hm.get e.r
  obtain ⟨_, f0, n0, np⟩ := E.has e.r h4
  rw [List.getLast?_eq_getElem?] at ea
  obtain ⟨u, hu, ru⟩ := h3.get ea
  refine ⟨.ref p, h1, tyL h2, p, vs, u, rfl, rfl, h2, by rw [h3.len]; exact hu, ?_⟩
  have dl : ∀ {vs : List V} {xs : List α}, All2 (Ra.r F) vs xs → All2 (Ra.r F) vs.dropLast xs.dropLast := fun {vs xs} h => by
    have e1 := List.dropLast_eq_take (l := vs)
    have e2 := List.dropLast_eq_take (l := xs)
    rw [e1, e2, h.len]
    exact h.take _
  have e1 : EI k E F (upd H p (.lst vs.dropLast)) σ (put ρ (g ρ).dropLast) := ⟨hm.mod e.r e.nd h1 (dl h3), e.nd⟩
  exact hg k F _ σ _ c u a _ (w.mod n0 f0) e1 ru fun σ' e' => q F _ σ' (Same.refl F) (w.mod n0 f0) e'
/-! ### a tuple of texts that the top wrote -/
def KTS (K : PySem.W.Frag) (a : Addr) (xs : List Str) : Prop := ∃ (o : Obj) (its : Array Value) (n : Nat), K.lookup a = some o ∧ o.cls = .type "tuple" ∧ o.data = .seq its n ∧ its.size ≤ sizeLine ∧ Vals (xs.map V.str) its.toList
theorem all2_strs (F : Hp) : ∀ xs : List Str, All2 (rStr.r F) (xs.map V.str) xs
  | [] => .nil
  | x :: xs => .cons rfl (all2_strs F xs)
theorem e_kts {a : Addr} {xs : List Str} (h : KTS K a xs) : SE μ E (rTup K rStr) (tC (.ref a)) fun _ => .ret xs := fun k F H σ ρ c Q w e q => q (.ref a) F H (ExtX.refl w.sub) w ⟨a, xs.map V.str, rfl, .inr h, all2_strs F xs⟩
end
section
variable {X : Cx} {K : PySem.W.Frag}
/-- inside a comprehension -/
theorem pc_eqSetsK {a b : Expr} {ta tb : TE} {p q p2 q2 : Pos} (hu : X.A.units < cLine) (hc : X.calm = true) (hg : Gl X "set") (hm : X.mg "set" = none) (ha : PE X a ta) (hb : PE X b tb) (hK : X.K = K := by rfl)
    (na : starEach [a] X.env = (false, eval a X.env) :: starEach [] X.env := by rfl) (nb : starEach [b] X.env = (false, eval b X.env) :: starEach [] X.env := by rfl) :
    PC X .Eq (.Call (.Name "set" p) [a] [] q) (.Call (.Name "set" p2) [b] [] q2) (tEqSets K ta tb) := by subst hK; exact pc_eqSets hu hc hg hm ha hb na nb
end
end PF

set_option Elab.async false
set_option linter.all false
set_option maxRecDepth 100000
set_option maxHeartbeats 1000000
namespace PF
open PySem PySem.Spec PyProof.Rows L2 SlX
/-! ### dicts of one's own -/
section
variable {α β κ : Type}
def sOwnD (kf : κ → Key) (R : Rp α) : SR (List (κ × α)) where
  r := fun p H0 F H o l => ∃ D kvs, o = some (.ref D) ∧ H D = some (.dK kvs) ∧ AllD kf (R.r F) kvs l ∧ F D = none ∧ H0 D = none ∧ p ≠ some D
  own := fun o => match o with
    | some (.ref D) => some D
    | _ => none
  step := fun x ⟨D, kvs, e, h, t, n1, n2, n3⟩ => ⟨D, kvs, e, x.hp D _ n3 h, t.imp fun _ _ g => R.st x.fz g, (x.old D (some_ne h)).trans n1, n2, n3⟩
  upd := fun c _ ⟨D, kvs, e, h, t, n1, n2, n3⟩ => ⟨D, kvs, e, by rw [upd_ne (fun z => c (by rw [e, z]))]; exact h, t, n1, n2, n3⟩
  fz := fun s c _ ⟨D, kvs, e, h, t, n1, n2, n3⟩ => ⟨D, kvs, e, h, t.imp fun _ _ g => R.st s g, by rw [upd_ne (fun z => c (by rw [e, z]))]; exact n1, n2, n3⟩
  has := fun ⟨D, kvs, e, h, t, n1, n2, n3⟩ c => by
    subst e
    cases c
    exact ⟨by rw [h]; simp, n1, n2, n3⟩
structure ModD {Γ : Type} (E : EV Γ) (i : Nat) (kf : κ → Key) (R : Rp α) (g : Γ → List (κ × α)) (put : Γ → List (κ × α) → Γ) : Prop where
  get : ∀ {p : Option Addr} {H0 F H : Hp} {σ : L2.St} {ρ : Γ}, E.r p H0 F H σ ρ → ∃ D kvs, σ[i]? = some (some (.ref D)) ∧ H D = some (.dK kvs) ∧ AllD kf (R.r F) kvs (g ρ) ∧ D ∈ E.owns σ
  mod : ∀ {p : Option Addr} {H0 F H : Hp} {σ : L2.St} {ρ : Γ} {D : Addr} {kvs : List (Key × V)} {l : List (κ × α)}, E.r p H0 F H σ ρ → (E.owns σ).Nodup → σ[i]? = some (some (.ref D)) → AllD kf (R.r F) kvs l → E.r p H0 F (upd H D (.dK kvs)) σ (put ρ l)
theorem modD0 {Γ : Type} {kf : κ → Key} {R : Rp α} {E : EV Γ} : ModD (eCons (sOwnD kf R) E) 0 kf R (·.1) (fun ρ l => (l, ρ.2)) where
  get := fun ⟨o, τ, e, ⟨D, kvs, e2, h, t, _⟩, _⟩ => ⟨D, kvs, by rw [e, e2]; rfl, h, t, by rw [e, e2]; exact List.mem_cons_self⟩
  mod := fun {p H0 F H σ ρ D kvs l} ⟨o, τ, e, ⟨D', kvs', e2, h, t, n1, n2, n3⟩, q⟩ n hi a => by
    subst e e2
    obtain rfl : D' = D := by
      have hi' : some (some (V.ref D')) = some (some (V.ref D)) := hi
      cases hi'; rfl
    exact ⟨_, τ, rfl, ⟨D', kvs, rfl, upd_same, a, n1, n2, n3⟩, E.upd (List.nodup_cons.mp n).1 (.dK h) q⟩
theorem modDS {Γ γ : Type} {kf : κ → Key} {R : Rp α} {T : SR γ} {E : EV Γ} {i : Nat} {g : Γ → List (κ × α)} {put : Γ → List (κ × α) → Γ} (m : ModD E i kf R g put) : ModD (eCons T E) (i + 1) kf R (fun ρ => g ρ.2) (fun ρ l => (ρ.1, put ρ.2 l)) where
  get := fun ⟨o, τ, e, _, q⟩ => by
    obtain ⟨D, kvs, h1, h2, h3, h4⟩ := m.get q
    exact ⟨D, kvs, by rw [e]; simpa using h1, h2, h3, by rw [e]; exact List.mem_append_right _ h4⟩
  mod := fun {p H0 F H σ ρ D kvs l} ⟨o, τ, e, t, q⟩ n hi a => by
    subst e
    obtain ⟨n1, n2, n3⟩ := List.nodup_append.mp n
    have hi' : τ[i]? = some (some (.ref D)) := by simpa using hi
    obtain ⟨D', kvs', h1, h2, h3, h4⟩ := m.get q
    rw [hi'] at h1
    obtain rfl : D = D' := by cases h1; rfl
    exact ⟨o, τ, rfl, T.upd (fun z => n3 D (by rw [z]; simp) D h4 rfl) (.dK h2) t, m.mod q n2 hi' a⟩
end
section
variable {Γ Γ' Γ'' Δ α β γ δ κ : Type} {μ : Md} {E : EV Γ} {E' : EV Γ'} {E'' : EV Γ''} {El : EV Δ} {Ra : Rp α} {Rb : Rp β} {Rk : Rp κ} {R : Rp γ} {kf : κ → Key} [DecidableEq κ]
/-- {} -/
theorem sv_d : SV μ E (sOwnD kf Rb) tDNewK fun _ => .ret [] := fun k F H σ ρ c Q w e q D nD => by
  have nD0 := w.h0 nD
  have nDF : F D = none := w.sub.free nD
  exact q (.ref D) F _ ((ExtX.refl w.sub).mod nD nDF) (w.mod nD0 nDF) ⟨D, [], rfl, upd_same, .nil, nDF, nD0, w.np nD0⟩ fun D' z => by cases z; exact nD
/-- x = a new thing -/
theorem s_asgV {S : SR α} {i : Nat} {te : TE} {m : Γ → M α} {put : Γ → α → Γ'} (ha : SV μ E S te m) (hp : PutS E i S E' put) : SS μ E E' El R (tAsg te (gName i)) fun ρ => (m ρ).bind fun a => .ret (.nx (put ρ a)) := fun k F H σ ρ c D w e h =>
  ha k F H σ ρ c _ w e (wp_imp h fun a c1 q v F1 H1 x1 w1 r1 o1 => by
    have e1 := e.step x1
    exact q F1 H1 _ x1.fz w1 ⟨hp.put e1.r r1, hp.nd e1.nd fun D' z y => absurd (o1 D' z) (E.has e.r y).1⟩)
/-- d[x] = e -/
theorem s_dset {i : Nat} {g : Γ → List (κ × β)} {put : Γ → List (κ × β) → Γ} {te tk : TE} {m : Γ → M β} {mk : Γ → M κ} (ky : KyR Rk kf) (hm : ModD E i kf Rb g put) (he : SE μ E Rb te m) (hk : SE μ E Rk tk mk) :
    SS μ E E El R (sDPut (tVar i) tk te) fun ρ => (m ρ).bind fun a => (mk ρ).bind fun x => .need ((g ρ).length < sizeLine) (.ret (.nx (put ρ (dput (g ρ) x a)))) := fun k F H σ ρ c D w e h => by
  refine he k F H σ ρ c _ w e (wp_imp h fun a c1 q v F1 H1 x1 w1 r1 => ?_)
  have e1 := e.step x1
  obtain ⟨p, kvs, h1, h2, h3, h4⟩ := hm.get e1.r
  obtain ⟨_, f0, n0, np⟩ := E.has e1.r h4
  refine ⟨.ref p, h1, hk k F1 H1 σ ρ c1 _ w1 e1 (wp_imp q fun x c2 ⟨ql, q⟩ u F2 H2 x2 w2 r2 => ?_)⟩
  have hp2 := x2.hp p _ np h2
  have f2 : F2 p = none := (x2.old p (some_ne h2)).trans f0
  have al := h3.imp fun _ _ g => Rb.st x2.fz g
  refine ⟨p, _, rfl, ?_, q F2 _ σ (x1.fz.trans x2.fz) (w2.mod n0 f2) ⟨hm.mod (E.step x2 e1.r) e.nd h1 (al.put ky.inj x (Rb.st x2.fz r1)), e.nd⟩⟩
  rw [ky.v r2]
  exact DPut.k hp2 (by rw [h3.len]; exact ql)
/-- the dict in slot i is let go ahead of the statement -/
def tLkS (i : Nat) (t : TS) : TS := fun D σ H => ∃ d u, σ[i]? = some (some (.ref d)) ∧ H d = some u ∧ Mut (some u) ∧ ∀ od, t D σ (upd H d (.frz od u))
theorem ps_lkS {X : Cx} {i : Nat} {st : Stmt} {t : TS} (h : PS X st t) : PS X st (tLkS i t) := ⟨fun pins s σ H D I ⟨d, u, _, hd, mu, q⟩ => by
  obtain ⟨od, I2⟩ := I.lock hd mu
  exact h.run pins s σ _ D I2 (q od)⟩
structure FzD (E : EV Γ) (i : Nat) (kf : κ → Key) (R : Rp α) (E' : EV Γ') (f : Γ → Γ') : Prop where
  get : ∀ {p : Option Addr} {H0 F H : Hp} {σ : L2.St} {ρ : Γ}, E.r p H0 F H σ ρ → ∃ D kvs, σ[i]? = some (some (.ref D)) ∧ H D = some (.dK kvs) ∧ F D = none ∧ H0 D = none ∧ D ∈ E.owns σ
  put : ∀ {p : Option Addr} {H0 F H : Hp} {σ : L2.St} {ρ : Γ} {D : Addr} {kvs : List (Key × V)} {o : Obj}, E.r p H0 F H σ ρ → (E.owns σ).Nodup → σ[i]? = some (some (.ref D)) → H D = some (.dK kvs) → Same F (upd F D (.frz o (.dK kvs))) → E'.r p H0 (upd F D (.frz o (.dK kvs))) (upd H D (.frz o (.dK kvs))) σ (f ρ)
  ow : ∀ σ, (E'.owns σ).Sublist (E.owns σ)
theorem fzD0 : FzD (eCons (sOwnD kf Ra) E) 0 kf Ra (eCons (sVal (rDct kf Ra)) E) id where
  get := fun ⟨o, τ, e, ⟨D, kvs, e2, h, t, n1, n2, n3⟩, _⟩ => ⟨D, kvs, by rw [e, e2]; rfl, h, n1, n2, by rw [e, e2]; exact List.mem_cons_self⟩
  put := fun {p H0 F H σ ρ D kvs ob} ⟨o, τ, e, ⟨D', kvs', e2, h, t, n1, n2, n3⟩, q⟩ n hi hD s => by
    subst e e2
    obtain rfl : D' = D := by
      have hi' : some (some (V.ref D')) = some (some (V.ref D)) := hi
      cases hi'; rfl
    rw [h] at hD
    obtain rfl : kvs' = kvs := by cases hD; rfl
    have nn := (List.nodup_cons.mp n).1
    exact ⟨_, τ, rfl, ⟨_, rfl, D', kvs', ob, rfl, upd_same, t.imp fun _ _ g => Ra.st s g⟩, E.upd nn (.dK h) (E.fz s nn (.dK h) q)⟩
  ow := fun σ => by
    cases σ with
    | nil => exact List.Sublist.refl _
    | cons o τ => exact List.sublist_append_right _ _
theorem fzDS {S : SR δ} {i : Nat} {f : Γ → Γ'} (h : FzD E i kf Ra E' f) : FzD (eCons S E) (i + 1) kf Ra (eCons S E') fun ρ => (ρ.1, f ρ.2) where
  get := fun ⟨o, τ, e, _, q⟩ => by
    obtain ⟨D, kvs, h1, h2, h3, h4, h5⟩ := h.get q
    exact ⟨D, kvs, by rw [e]; simpa using h1, h2, h3, h4, by rw [e]; exact List.mem_append_right _ h5⟩
  put := fun {p H0 F H σ ρ D kvs ob} ⟨o, τ, e, t, q⟩ n hi hD s => by
    subst e
    obtain ⟨n1, n2, n3⟩ := List.nodup_append.mp n
    have hi' : τ[i]? = some (some (.ref D)) := by simpa using hi
    obtain ⟨D', kvs', h1, h2, _, _, h4⟩ := h.get q
    rw [hi'] at h1
    obtain rfl : D = D' := by cases h1; rfl
    have nn : S.own o ≠ some D := fun z => n3 D (by rw [z]; simp) D h4 rfl
    exact ⟨o, τ, rfl, S.upd nn (.dK hD) (S.fz s nn (.dK hD) t), h.put q n2 hi' hD s⟩
  ow := fun σ => by
    cases σ with
    | nil => exact List.Sublist.refl _
    | cons o τ => exact List.Sublist.append (List.Sublist.refl _) (h.ow τ)
theorem s_lkS {i : Nat} {t : TS} {f : Γ → Γ'} {m : Γ' → M (Ct Γ'' Δ γ)} (h : FzD E i kf Ra E' f) (hs : SS μ E' E'' El R t m) : SS μ E E'' El R (tLkS i t) fun ρ => m (f ρ) := fun k F H σ ρ c D w e q => by
  obtain ⟨a, kvs, h1, h2, h3, h4, _⟩ := h.get e.r
  refine ⟨a, .dK kvs, h1, h2, trivial, fun od => ?_⟩
  have s : Same F (upd F a (.frz od (.dK kvs))) := same_upd h3
  have h0 : ∀ b, k.H0 b ≠ none → b ≠ a := fun b nb z => by subst z; exact nb h4
  have sub : Same (upd F a (.frz od (.dK kvs))) (upd H a (.frz od (.dK kvs))) := fun b u e => by
    by_cases z : b = a
    · subst z; rw [upd_same] at e ⊢; exact e
    · rw [upd_ne z] at e ⊢; exact w.sub _ _ e
  have w' : Wo k (upd F a (.frz od (.dK kvs))) (upd H a (.frz od (.dK kvs))) c := by
    refine ⟨sub, ⟨w.ext.fz.trans s, sub, fun b o np hb => ?_, fun b hb => by rw [upd_ne (h0 b hb)]; exact w.ext.old b hb, fun b hb => by rw [upd_ne (h0 b hb)]; exact w.ext.on b hb⟩, fun b eb => ?_⟩
    · rw [upd_ne (h0 b (some_ne hb))]; exact w.ext.hp b o np hb
    · obtain ⟨q1, q2, d0, d1, d2, q3, q4⟩ := w.dice b eb
      exact ⟨by rw [upd_ne (h0 b q2)]; exact q1, q2, d0, d1, d2, by rw [upd_ne (h0 b q2)]; exact q3, q4⟩
  exact hs k _ _ σ (f ρ) c D w' ⟨h.put e.r e.nd h1 h2 s, e.nd.sublist (h.ow σ)⟩ (wp_imp q fun _ _ z => z.fz s)
end
end PF

set_option Elab.async false
set_option linter.all false
set_option maxRecDepth 100000
set_option maxHeartbeats 1000000
namespace PF
open PySem PySem.Spec PyProof.Rows L2 SlX
section
variable {Γ α β κ : Type} {μ : Md} {E : EV Γ} {Ra : Rp α} {K : PySem.W.Frag}
/-- t * k -/
theorem o_repT : OpS μ (rRepT K) (rTup K Ra) rInt (rTup K Ra) fun xs k => .need (xs ≠ [] ∧ 2 ≤ k ∧ k ≤ 1000 ∧ xs.length ≤ 1000) (.ret (List.replicate k.toNat xs).flatten) := fun k F H c x y xs n Q w ⟨p, vs, e, hp, al⟩ hy ⟨⟨q1, q2, q3, q4⟩, q⟩ =>
  ⟨p, n, vs, e, hy, same_seqT w.sub hp, (fun z => q1 (by cases al with | nil => rfl | cons _ _ => cases z)), q2, q3, by rw [al.len]; exact q4, fun l nl => by
    have x2 := ExtX.new (p := k.p) w.sub nl (.tup (List.replicate n.toNat vs).flatten)
    exact q (.ref l) _ _ x2 (w.new nl _) ⟨l, _, rfl, .of upd_same, (all2_rep al _).imp fun _ _ g => Ra.st x2.fz g⟩⟩
end
/-! ### words where the model's tables must be named -/
section
variable {X : Cx} {K : PySem.W.Frag}
theorem call_isiUK (e : X.K = K) : CallR X (.builtin "isinstance") (rIsiU K) := by rw [← e]; exact call_isiU
theorem call_lenK (e : X.K = K) : CallR X (.builtin "len") (fun xs H Q => ∃ x n, xs = [x] ∧ LenV K x H n ∧ Q (.int n) H) := by rw [← e]; exact call_len
theorem pg_tupK {es : List Expr} {k n : Nat} {t : TGs} {pos : Pos} (hc : X.calm = true) (h : PGs X es t) (hK : X.K = K := by rfl) (hn : (assignEach es X.env).length = n := by rfl) (hst : (assignEach es X.env).findIdx? (·.1) = none := by rfl) : PG X (.Tuple es k pos) (gTup K n t) := by
  subst hK; exact pg_tup hc h hn hst
end
end PF

set_option Elab.async false
set_option linter.all false
set_option maxRecDepth 100000
set_option maxHeartbeats 1000000
namespace PF
open PySem PySem.Spec PyProof.Rows L2 SlX GenW
/-! ### generators whose consumer is a loop: between two items a frame above may change -/
/-- the context with another state at its entry; nothing is raised -/
abbrev cxR (X : Cx) (t : Shared) : Cx := { X with s_0 := t, xe := fun _ _ => False }
/-- a sleep: t, t' the state at the entry before and after, s, s' the state; only the object at L may be another one -/
structure Slp (L : Addr) (t t' s s' : Shared) : Prop where
  os : s'.os = s.os
  bare : AllBare s'.gens
  keep : ∀ b o, b ≠ L → s.heap.get? b = some o → s'.heap.get? b = some o
  tos : t'.os = t.os
  tsz : t'.heap.objs.size = t.heap.objs.size
  tk : ∀ b, b ≠ L → t'.heap.get? b = t.heap.get? b
  now : ∃ o', t'.heap.get? L = some o' ∧ (∀ vs, o'.data ≠ .fields vs) ∧ s'.heap.get? L = some o'
  nc : ∀ o v, s.heap.get? L = some o → o.data ≠ .cell v
theorem funs_re {base h h' : Heap} {L : Addr} (hk : ∀ b, b ≠ L → h'.get? b = h.get? b) (hL : ∃ o', h'.get? L = some o' ∧ ∀ vs, o'.data ≠ .fields vs) : ∀ l : List Env, h.FunFrames base l → h'.FunFrames base l
  | [], _ => trivial
  | env :: rest, ⟨q1, ⟨a, o, q2, q3, q4, q5⟩, q6⟩ => by
    refine ⟨q1, ?_, funs_re hk hL rest q6⟩
    by_cases z : a = L
    · obtain ⟨o', e, d⟩ := hL
      exact ⟨a, o', q2, q3, by rw [z]; exact e, d⟩
    · exact ⟨a, o, q2, q3, (hk a z).trans q4, q5⟩
theorem Inv.slept {X : Cx} {L : Addr} {t t' s s' : Shared} {pins : List (Addr × Obj)} {σ : L2.St} {H : Hp} (I : Inv (cxR X t) pins σ H s) (hL : L ∈ X.fs) (z : Slp L t t' s s') : Inv (cxR X t') pins σ H s' := by
  obtain ⟨hbL, oL, htL, _⟩ := I.ok.funs.mem hL
  have hH0 : X.H_0 L = none := I.ok.frf L hL
  have hexL : L ∉ X.ex := fun q => I.ok.exfs L q hL
  have hHL : H L = none := I.base.free L oL htL hH0 hexL
  have ltL : L < t.heap.objs.size := Heap.lt_size htL
  have neL : X.env.locals ≠ L := fun e => absurd (Nat.lt_of_lt_of_le ltL I.ok.above) (by rw [e]; exact Nat.lt_irrefl _)
  obtain ⟨o', e1, e2, e3⟩ := z.now
  have cellNe : ∀ {c : Addr} {v : Option Value}, s.heap.IsCell c v → c ≠ L := fun {c v} ⟨o, ho, hd⟩ e => z.nc o v (e ▸ ho) hd
  have cellTo : ∀ {c : Addr} {v : Option Value}, s.heap.IsCell c v → s'.heap.IsCell c v := fun {c v} q => by
    have n := cellNe q
    obtain ⟨o, ho, hd⟩ := q
    exact ⟨o, z.keep c o n ho, hd⟩
  have szt : (cxR X t').s_0.heap.objs.size = t.heap.objs.size := z.tsz
  refine ⟨⟨I.ok.mod, I.ok.kind, I.ok.glob, I.ok.blt, ?_, I.ok.inj, I.ok.has, fun x c q1 q2 => ?_, I.ok.hd, I.ok.frames, I.ok.stk, I.ok.exf, fun b o q => ?_, ?_, I.ok.noex, I.ok.exfs, ?_, I.ok.frf⟩, ?_, z.bare, ⟨?_, ?_, ?_, ?_, I.base.tups, I.base.frzs, I.base.tbls⟩, ?_, fun x c q => ?_, I.free, I.freeC, fun p hp => ?_, fun b u q => ?_, I.len⟩
  · rw [szt]; exact I.ok.above
  · rw [szt]; exact I.ok.cab x c q1 q2
  · obtain ⟨h1, h2⟩ := I.ok.bs b o q
    have nb : b ≠ L := fun e => by rw [e, hbL] at q; cases q
    exact ⟨(z.tk b nb).trans h1, h2⟩
  · rw [szt]; exact I.ok.bsz
  · exact funs_re z.tk ⟨o', e1, e2⟩ _ I.ok.funs
  · exact (z.os.trans I.os).trans z.tos.symm
  · intro b o q n nf nx
    have nb : b ≠ L := fun e => nf (e ▸ hL)
    exact z.keep b o nb (I.base.keep b o ((z.tk b nb).symm.trans q) n nf nx)
  · intro b o q n hf nx
    by_cases nb : b = L
    · subst nb
      have q : t'.heap.get? b = some o := q
      rw [e1] at q; cases q
      exact ⟨o'.slots, e3⟩
    · obtain ⟨sl, q2⟩ := I.base.slot b o ((z.tk b nb).symm.trans q) n hf nx
      exact ⟨sl, z.keep b _ nb q2⟩
  · intro b o q n nx
    by_cases nb : b = L
    · rw [nb]; exact hHL
    · exact I.base.free b o ((z.tk b nb).symm.trans q) n nx
  · intro b o q nx
    by_cases nb : b = L
    · exact ⟨o', by rw [nb]; exact e3⟩
    · obtain ⟨o2, q2⟩ := I.base.there b o ((z.tk b nb).symm.trans q) nx
      exact ⟨o2, z.keep b _ nb q2⟩
  · obtain ⟨m, hn, hl⟩ := I.loc
    obtain ⟨o, es, ep, ho, r⟩ := hn
    refine ⟨m, ⟨o, es, ep, z.keep _ o neL ho, r⟩, fun i x v h1 h2 h3 => ?_⟩
    obtain ⟨u, ru, lk⟩ := hl i x v h1 h2 h3
    refine ⟨u, ru, lk.imp id fun ⟨k1, c, k2, k3⟩ => ⟨k1, c, k2, cellTo k3⟩⟩
  · obtain ⟨v, k⟩ := I.cell x c q
    exact ⟨v, cellTo k⟩
  · obtain ⟨p1, p2, p3, p4, p5⟩ := I.pin p hp
    exact ⟨z.keep _ _ (fun e => p4 (e ▸ hL)) p1, p2, p3, p4, p5⟩
  · refine (I.hok b u q).stay (fun c v hc r => z.keep c v (fun e => ?_) r) (fun _ r => r) fun _ _ r => r
    rcases hc with y | y
    · rw [← y, e, hHL] at q; cases q
    · rw [e, hHL] at y; cases y

/-- what the consumer holds of the state at the entry, by what is out -/
abbrev CS := List V → Shared → Prop
def GI2 (X : Cx) (C : CS) (ip : List (Addr × Obj)) (ys : List V) (σ : L2.St) (H : Hp) (s : Shared) : Prop := ∃ t, C ys t ∧ Inv (cxR X t) ip σ H s
def GY2 (X : Cx) (L : Addr) (C : CS) : Protocol := fun n _ v s kap =>
  ∃ ys x ip σ H t, n + 1 + ys.length = sizeLine ∧ RelV x v ∧ C ys t ∧ Inv (cxR X t) ip σ H s ∧ ∀ t' s', C (ys ++ [x]) t' → Slp L t t' s s' → kap (.send .none) s'
def GSP2 (X : Cx) (C : CS) (ip : List (Addr × Obj)) (D : GEnds) (ys : List V) (f : Flow) (s : Shared) : Prop :=
  match f with
  | .next => ∃ σ H, GI2 X C ip ys σ H s ∧ D.nx ys σ H
  | .brk => ∃ σ H, GI2 X C ip ys σ H s ∧ D.bk ys σ H
  | .cont => ∃ σ H, GI2 X C ip ys σ H s ∧ D.ct ys σ H
  | .ret u => ∃ v σ H, GI2 X C ip ys σ H s ∧ RelV v u ∧ D.rt ys v H
structure GC2 (X : Cx) (L : Addr) (C : CS) (A : Around) (c : Code) (fs : List Frame) (gd : Bool → Bool) : Prop where
  mem : L ∈ X.fs
  sz : ∀ ys ys' t t', C ys t → C ys' t' → t'.heap.objs.size = t.heap.objs.size
  over : A.over c fs = X.A
  split : splitAtGen fs = none
  guard : fs.any Frame.guarded = false
  gd : gd false = false
def GK2 (X : Cx) (L : Addr) (C : CS) (ip : List (Addr × Obj)) (A : Around) (R : GenEnd) (c : Code) (fs : List Frame) (K : Flow → Sem PySem.Fin) (D : GEnds) : Prop :=
  ∀ (n : Nat) (ys : List V) (s₀ s : Shared) (f : Flow), n + ys.length = sizeLine → GSP2 X C ip D ys f s → Seg (model X.prog X.w) A R (GY2 X L C) n s₀ c (K f) fs s
structure GS2 (X : Cx) (st : Stmt) (t : TGn) : Prop where
  run : ∀ (A : Around) (L : Addr) (C : CS) (ip : List (Addr × Obj)) (R : GenEnd) (n : Nat) (ys : List V) (s₀ : Shared) (c : Code) (fs : List Frame) (K : Flow → Sem PySem.Fin) (J : Value → Sem PySem.Fin) (gd : Bool → Bool) (lv : List Value → List Value) (s : Shared) (σ : L2.St) (H : Hp) (D : GEnds),
    GC2 X L C A c fs gd → n + ys.length = sizeLine → GK2 X L C ip A R c fs K D → GI2 X C ip ys σ H s → t D ys σ H →
    Seg (model X.prog X.w) A R (GY2 X L C) n s₀ c ((exec st X.env).wrap K J gd lv) fs s
structure GSs2 (X : Cx) (st : List Stmt) (t : TGn) : Prop where
  run : ∀ (A : Around) (L : Addr) (C : CS) (ip : List (Addr × Obj)) (R : GenEnd) (n : Nat) (ys : List V) (s₀ : Shared) (c : Code) (fs : List Frame) (K : Flow → Sem PySem.Fin) (J : Value → Sem PySem.Fin) (gd : Bool → Bool) (lv : List Value → List Value) (s : Shared) (σ : L2.St) (H : Hp) (D : GEnds),
    GC2 X L C A c fs gd → n + ys.length = sizeLine → GK2 X L C ip A R c fs K D → GI2 X C ip ys σ H s → t D ys σ H →
    Seg (model X.prog X.w) A R (GY2 X L C) n s₀ c ((execs st X.env).wrap K J gd lv) fs s
section
variable {X : Cx} {st : Stmt} {rest : List Stmt}
theorem sp_gsp2 {C : CS} {ip : List (Addr × Obj)} {t s : Shared} {D : GEnds} {ys : List V} {f : Flow} (hC : C ys t) (h : L2.SP (cxR X t) ip (D.at ys) f s) : GSP2 X C ip D ys f s := by
  cases f with
  | next => obtain ⟨σ', H', J, q⟩ := h; exact ⟨σ', H', ⟨t, hC, J⟩, q⟩
  | brk => obtain ⟨σ', H', J, q⟩ := h; exact ⟨σ', H', ⟨t, hC, J⟩, q⟩
  | cont => obtain ⟨σ', H', J, q⟩ := h; exact ⟨σ', H', ⟨t, hC, J⟩, q⟩
  | ret u => obtain ⟨v, σ', H', J, r, q⟩ := h; exact ⟨v, σ', H', ⟨t, hC, J⟩, r, q⟩
theorem g2_ps {ts : TS} (h : ∀ t, PS (cxR X t) st ts) : GS2 X st (tPlain ts) := by
  constructor
  intro A L C ip R n ys s₀ c fs K J gd lv s σ H D g hn k ⟨t, hC, I⟩ ht
  refine seg_wrap ?_
  rw [g.over]
  exact wpAny_mono ((h t).run ip s σ H (D.at ys) I ht) (fun f s' q => k n ys s₀ s' f hn (sp_gsp2 hC q)) fun _ _ z => False.elim z
theorem g2s_nil : GSs2 X [] tG0 := by
  constructor
  intro A L C ip R n ys s₀ c fs K J gd lv s σ H D g hn k hI ht
  exact seg_execs_nil (k n ys s₀ s .next hn ⟨σ, H, hI, ht⟩)
theorem g2s_cons {t u : TGn} (a : GS2 X st t) (b : GSs2 X rest u) : GSs2 X (st :: rest) (tGThen t u) := by
  constructor
  intro A L C ip R n ys s₀ c fs K J gd lv s σ H D g hn k hI ht
  refine seg_execs_cons (a.run A L C ip R n ys s₀ c fs _ J gd lv s σ H { D with nx := fun ys' σ' H' => u D ys' σ' H' } g hn (fun n2 ys2 s₂ s3 f hn2 hs => ?_) hI ht)
  cases f with
  | next =>
    obtain ⟨σ2, H2, I2, q⟩ := hs
    exact b.run A L C ip R n2 ys2 s₂ c fs K J gd lv s3 σ2 H2 D g hn2 k I2 q
  | brk => exact k n2 ys2 s₂ s3 .brk hn2 hs
  | cont => exact k n2 ys2 s₂ s3 .cont hn2 hs
  | ret u => exact k n2 ys2 s₂ s3 (.ret u) hn2 hs
theorem g2_if {c : Expr} {a b : List Stmt} {pos : Pos} {tc : TT} {t u : TGn} (hc : ∀ t, PT (cxR X t) c tc) (ha : GSs2 X a t) (hb : GSs2 X b u) : GS2 X (.If c a b pos) (tGIf tc t u) := by
  constructor
  intro A L C ip R n ys s₀ cd fs K J gd lv s σ H D g hn k ⟨t0, hC, I⟩ ht
  rw [exec_If]
  refine seg_bind_wrap (wpAny_standAt ?_)
  refine seg_bind_wrap ?_
  rw [g.over]
  refine wpAny_mono ((hc t0).run ip s σ H _ I ht) (fun d s' hd => ?_) fun _ _ z => False.elim z
  obtain ⟨H2, I2, q2⟩ := hd
  cases d with
  | true => exact ha.run A L C ip R n ys s₀ cd fs K J gd lv s' σ H2 D g hn k ⟨t0, hC, I2⟩ q2
  | false => exact hb.run A L C ip R n ys s₀ cd fs K J gd lv s' σ H2 D g hn k ⟨t0, hC, I2⟩ q2
theorem g2_yield {e : Expr} {yp pos : Pos} {te : TE} (he : ∀ t, PE (cxR X t) e te) (hco : X.env.scope.isCoroutine = false := by rfl) (hi : interactive X.env = false := by rfl) : GS2 X (.Expr (.Yield (some e) yp) pos) (tGYield te) := by
  constructor
  intro A L C ip R n ys s₀ c fs K J gd lv s σ H D g hn k ⟨t, hC, I⟩ ⟨hlt, ht⟩
  obtain ⟨n, rfl⟩ : ∃ m, n = m + 1 := ⟨n - 1, by omega⟩
  refine seg_Expr_Yield g.split g.gd g.guard ?_ hco hi
  rw [g.over]
  refine wpAny_mono ((he t).run ip s σ H _ I ht) (fun v s' hv => ?_) fun _ _ z => False.elim z
  obtain ⟨x, H1, I1, rv, q⟩ := hv
  intro kap hk
  refine ⟨ys, x, ip, σ, H1, t, hn, rv, hC, I1, fun t' s'' hC' z => hk .none s'' ?_⟩
  exact k n (ys ++ [x]) s'' s'' .next (by rw [List.length_append, List.length_singleton]; omega) ⟨σ, H1, ⟨t', hC', Inv.slept I1 g.mem z⟩, q⟩
end
/-! ### for, in a generator's body -/
def tGFor (wi : TI) (g : TG) (tb : TGn) : TGn := fun D ys σ H => wi σ H fun J H1 => ∃ W : Nat → Nat → List V → L2.St → Hp → Prop, (∃ m, W 0 m ys σ H1) ∧ ∀ i m ys σ H, W i m ys σ H →
  (J.stop i H ∧ D.nx ys σ H) ∨ (J.go i H ∧ ∃ N : List V → L2.St → Hp → Prop, (∀ ys' σ' H', N ys' σ' H' → ∃ m', m' < m ∧ W (i + 1) m' ys' σ' H') ∧ ∀ x H', J.yld i H x H' → g x σ H' fun σ2 H2 => tb { D with nx := N, ct := N, bk := D.nx } ys σ2 H2)
section
variable {X : Cx}
theorem seg_forL {prog : Program} {w : World} {A : Around} {R : GenEnd} {Y : Protocol} {n : Nat} {s₀ s : Shared} {fs : List Frame} {env : Env} {tg : Expr} {it : Value} {body : List Stmt}
    (h : wpAny (model prog w) (A.over (.forLoop tg it body [] env) fs) (pyNext it) (fun r s1 => match r with
      | none => Seg (model prog w) A R Y n s₀ (.forLoop tg it body [] env) (.pure (.again (.block [] env))) fs s1
      | some v => wpAny (model prog w) (A.over (.forLoop tg it body [] env) fs) (letOwnedTupleGo tg it v) (fun _ s2 => wpAny (model prog w) (A.over (.forLoop tg it body [] env) fs) (assign tg env v) (fun _ s3 =>
          ∀ (K : Flow → Sem PySem.Fin) (J : Value → Sem PySem.Fin) (gd : Bool → Bool) (lv : List Value → List Value), gd false = false → (K .next = .pure (.again (.forLoop tg it body [] env))) → (K .cont = .pure (.again (.forLoop tg it body [] env))) → (K .brk = .pure (.done .next)) → (∀ v, K (.ret v) = .pure (.done (.ret v))) →
            Seg (model prog w) A R Y n s₀ (.forLoop tg it body [] env) ((execs body env).wrap K J gd lv) fs s3) (fun _ _ => False) s2) (fun _ _ => False) s1) (fun _ _ => False) s) :
    Seg (model prog w) A R Y n s₀ (.forLoop tg it body [] env) ((model prog w).den (.forLoop tg it body [] env)) fs s := by
  show Seg _ A R Y n s₀ _ ((forTurn tg it body [] env).onRaise (fun x => do noteFrame x env; theTreesLotGoes x)) fs s
  rw [Sem.onRaise_eq_wrap]
  unfold forTurn
  refine seg_bind_wrap (wpAny_standAt ?_)
  refine seg_bind_wrap (wpAny_onRaise (wpAny_mono h (fun r s1 h1 => ?_) fun _ _ z => False.elim z))
  cases r with
  | none => exact h1
  | some v =>
    refine seg_bind_wrap (wpAny_mono h1 (fun _ s2 h2 => ?_) fun _ _ z => False.elim z)
    refine seg_bind_wrap (wpAny_mono h2 (fun _ s3 h3 => ?_) fun _ _ z => False.elim z)
    rw [Sem.bind_eq_wrap', Sem.wrap_wrap]
    exact h3 _ _ _ _ rfl rfl rfl rfl fun _ => rfl
theorem gc2_loop {L : Addr} {C : CS} {A : Around} {c c' : Code} {fs : List Frame} {gd gd' : Bool → Bool} {k : Result → Sem PySem.Fin} {l kp : List Value} {p : Pos} (g : GC2 X L C A c fs gd) (hw : c'.weight = 0) (hu : c'.cUnits = 0) (hg : gd' false = false) :
    GC2 X L C A c' (.ret k none (gd false) l c p kp :: fs) gd' where
  mem := g.mem
  sz := g.sz
  over := (over_loop hw hu).trans g.over
  split := by
    show (splitAtGen fs).map _ = none
    rw [g.split]; rfl
  guard := by
    show (gd false || fs.any Frame.guarded) = false
    rw [g.gd, g.guard]; rfl
  gd := hg
theorem g2_for {tg iter : Expr} {body : List Stmt} {wi : TI} {g : TG} {tb : TGn} {pos : Pos} (hc : X.calm = true) (hi : ∀ t, PI (cxR X t) tg iter wi) (hg : ∀ t, PG (cxR X t) tg g) (hb : GSs2 X body tb)
    (hs : ∀ x, foldedSetIterable iter X.env x = pure x := by intro _; rfl) : GS2 X (.For tg iter body [] pos) (tGFor wi g tb) := by
  constructor
  intro A L C ip R n ys s₀ c fs K J gd lv s σ H D gc hn k ⟨t, hC, I⟩ ht
  rw [exec_For]
  refine seg_bind_wrap (wpAny_standAt ?_)
  refine seg_bind_wrap ?_
  rw [gc.over]
  refine wpAny_mono ((hi t).run ip s σ H _ I ht) (fun v s1 h1 => ?_) fun _ _ z => False.elim z
  refine seg_bind_wrap (wpAny_of_eq (hs v) ?_)
  refine seg_bind_wrap (wpAny_standAt ?_)
  refine seg_bind_wrap (wpAny_holding ?_)
  rw [gc.over]
  refine wpAny_mono h1 (fun u s2 h2 => ?_) fun _ _ z => False.elim z
  obtain ⟨it, fp, tn, JJ, H2, rfl, I2, T, st2, f2, W, ⟨m0, w0⟩, turn⟩ := h2
  refine seg_call fun p => ?_
  have gl := fun (gd' : Bool → Bool) (z : gd' false = false) (kk : Result → Sem PySem.Fin) => gc2_loop (k := kk) (c' := .forLoop tg (.ref it) body [] X.env) (l := lv []) (kp := []) (p := p) gc rfl rfl z
  have stat : ∀ {ys' : List V} {t' : Shared} {H' : Hp}, C ys' t' → (∀ b ∈ fp, H' b = none) → ∀ b ∈ fp, FpOk (cxR X t') ip H' b := fun {ys' t' H'} hC' q b hb => by
    obtain ⟨_, z2, z3, z4, z5, z6⟩ := f2 b hb
    refine ⟨q b hb, z2, z3, ?_, z5, z6⟩
    show b ∈ X.ex ∨ t'.heap.objs.size ≤ b
    rw [gc.sz _ _ _ _ hC hC']; exact z4
  have loop : ∀ (m i n : Nat) (ys : List V) (s₀ s : Shared) (t' : Shared) (σ : L2.St) (H : Hp), n + ys.length = sizeLine → C ys t' → Inv (cxR X t') ip σ H s → tn i s.heap → (∀ b ∈ fp, H b = none) → W i m ys σ H →
      Seg (model X.prog X.w) A R (GY2 X L C) n s₀ (.forLoop tg (.ref it) body [] X.env) ((model X.prog X.w).den (.forLoop tg (.ref it) body [] X.env))
        (.ret (fun r => ((match r with | .ok f => (.pure f : Sem Flow) | .error e => .raise e).onRaise (cameBack X.env)).wrap K J gd lv) none (gd false) (lv []) c p [] :: fs) s := by
    intro m
    induction m using Nat.strongRecOn with
    | ind m ih =>
      intro i n ys s₀ s t' σ H hn hC' I' st' fr w'
      refine seg_forL ?_
      rw [(gl id rfl _).over]
      rcases turn i m ys σ H w' with ⟨stop, qn⟩ | ⟨go, N, hN, step⟩
      · refine wpAny_mono (T.done (cxR X t') rfl rfl rfl hc i ip s σ H _ I' (stat hC' fr) st' stop) (fun r s4 ⟨hr, I4⟩ => ?_) fun _ _ z => False.elim z
        subst hr
        refine seg_again rfl ?_
        exact seg_leaf (.ok .next) (k n ys s₀ s4 .next hn ⟨σ, H, ⟨t', hC', I4⟩, qn⟩)
      · refine wpAny_mono (T.item (cxR X t') rfl rfl rfl hc i ip s σ H (fun _ _ => False) I' (stat hC' fr) st' go) (fun r s4 ⟨u, hr, h4⟩ => ?_) fun _ _ z => False.elim z
        subst hr
        refine wpAny_mono h4 (fun _ s5 ⟨x, H5, I5, r5, y5, st5, fr5⟩ => ?_) fun _ _ z => False.elim z
        have I5' := I5.pinned (stat hC' fr5) (T.obj _ _ st5)
        refine wpAny_mono ((hg t').run _ s5 σ H5 x u _ I5' r5 (step x H5 y5)) (fun _ s6 ⟨σ6, H6, I6, q6⟩ => ?_) fun _ _ z => False.elim z
        intro K' J' gd' lv' eg e1 e2 e3 e4
        have back : ∀ {n' : Nat} {ys' : List V} {s₀' s7 : Shared} {σ7 : L2.St} {H7 : Hp}, n' + ys'.length = sizeLine → GI2 X C (ip ++ pinsAt fp s5.heap) ys' σ7 H7 s7 → N ys' σ7 H7 → Seg (model X.prog X.w) A R (GY2 X L C) n' s₀' (.forLoop tg (.ref it) body [] X.env) (.pure (.again (.forLoop tg (.ref it) body [] X.env)))
            (.ret (fun r => ((match r with | .ok f => (.pure f : Sem Flow) | .error e => .raise e).onRaise (cameBack X.env)).wrap K J gd lv) none (gd false) (lv []) c p [] :: fs) s7 := fun {n' ys' s₀' s7 σ7 H7} hn' ⟨t7, hC7, I7⟩ n7 => by
          obtain ⟨m', hm, w7⟩ := hN ys' σ7 H7 n7
          refine seg_again rfl (ih m' hm (i + 1) n' ys' s₀' s7 t7 σ7 H7 hn' hC7 I7.unpinned (T.keep _ _ _ st5 fun b hb o e => ?_) (fun b hb => ?_) w7)
          · exact (I7.pin (b, o) (List.mem_append_right _ (List.mem_append_right _ (mem_pinsAt hb e)))).1
          · obtain ⟨o, e, d⟩ := T.obj _ _ st5 b hb
            exact (I7.pin (b, o) (List.mem_append_right _ (List.mem_append_right _ (mem_pinsAt hb e)))).2.1
        refine hb.run A L C _ R n ys s₀ _ _ K' J' gd' lv' s6 σ6 H6 _ (gl gd' eg _) hn (fun n' ys' s₀' s7 f hn' q7 => ?_) ⟨t', hC', I6⟩ q6
        cases f with
        | next =>
          obtain ⟨σ7, H7, I7, n7⟩ := q7
          rw [e1]; exact back hn' I7 n7
        | cont =>
          obtain ⟨σ7, H7, I7, n7⟩ := q7
          rw [e2]; exact back hn' I7 n7
        | brk =>
          obtain ⟨σ7, H7, ⟨t7, hC7, I7⟩, n7⟩ := q7
          rw [e3]; exact seg_leaf (.ok .next) (k n' ys' s₀' s7 .next hn' ⟨σ7, H7, ⟨t7, hC7, I7.unpinned⟩, n7⟩)
        | ret v =>
          obtain ⟨x7, σ7, H7, ⟨t7, hC7, I7⟩, r7, n7⟩ := q7
          rw [e4]; exact seg_leaf (.ok (.ret v)) (k n' ys' s₀' s7 (.ret v) hn' ⟨x7, σ7, H7, ⟨t7, hC7, I7.unpinned⟩, r7, n7⟩)
  exact loop m0 0 n ys s₀ s2 t σ H2 hn hC I2 st2 (fun b hb => (f2 b hb).1) w0
end
end PF

set_option Elab.async false
set_option linter.all false
set_option maxRecDepth 100000
set_option maxHeartbeats 1000000
namespace PF
open PySem PySem.Spec PyProof.Rows L2 SlX GenW
/-! ### a generator def's promise, where a loop takes the items -/
def End2 (P : Program) (w : World) (outer : List Env) (H : Hp) (C : CS) (Q : List V → Hp → Prop) : GenEnd := fun n s₀ r s1 =>
  ((r = .ok (.ret .none) ∨ r = .ok .next) ∧ ∃ H' ys t, C ys t ∧ s1.os = t.os ∧ AllBare s1.gens ∧ Un (frs outer) [] H H' t.heap s1.heap ∧ HOk P w H' s1.heap ∧ Q ys H') ∨ ∃ e, r = .error e ∧ False
def Itm2 (P : Program) (w : World) (outer : List Env) (H : Hp) (L a : Addr) (g : Nat) (C : CS) : Protocol := fun n s₀ v s1 kap =>
  ∃ ys x t H', RelV x v ∧ C ys t ∧ s1.os = t.os ∧ AllBare s1.gens ∧ Un (frs outer) [] H H' t.heap s1.heap ∧ HOk P w H' s1.heap ∧ s1.heap.IsGen a g ∧ s1.heap.NoLimit ∧ ∀ t' s', C (ys ++ [x]) t' → Slp L t t' s1 s' → kap (.send .none) s'
def Made2 (P : Program) (w : World) (k : Nat) (outer : List Env) (H : Hp) (s : Shared) (Q : List V → Hp → Prop) (u : Value) (s' : Shared) : Prop :=
  ∃ (a : Addr) (g : Nat) (c : Code), u = .ref a ∧ s.heap.objs.size ≤ a ∧ s'.heap.IsGen a g ∧ s'.gens[g]? = some (.fresh c) ∧ s'.os = s.os ∧ AllBare s'.gens ∧ s'.heap.NoLimit ∧ (∀ b o, s.heap.get? b = some o → s'.heap.get? b = some o) ∧
    ∀ (A : Around) (L : Addr) (C : CS) (s2 : Shared), Room k A → A.frames = some outer → L ∈ frs outer → (∀ ys ys' t t', C ys t → C ys' t' → t'.heap.objs.size = t.heap.objs.size) → C [] s → (∀ b o, s'.heap.get? b = some o → s2.heap.get? b = some o) → s2.os = s.os → AllBare s2.gens →
      Seg (model P w) A (End2 P w outer H C Q) (Itm2 P w outer H L a g C) sizeLine s2 c ((model P w).den c) [] s2
structure Fn2 (P : Program) (w : World) (K : PySem.W.Frag) (mg : Str → Option Value) (base : Heap) (k : Nat) (f : Addr) (fd : FuncData) (ps : List Str) (sp : SpG) : Prop where
  len : ∀ vs H Q E, sp vs H Q E → vs.length = ps.length
  run : ∀ (A : Around) (outer : List Env) (s : Shared) (H : Hp) (args : Args) (us : List Value) (vs : List V) (Q : List V → Hp → Prop), Room k A → Env0 P w K mg base A outer s H → BindsTo s fd args (ps.zip us) → Vals vs us → sp vs H Q E0 →
    codeAny (model P w) A (.call (.ref f) args) (fun r s' => match r with | .ok (.ret u) => Made2 P w k outer H s Q u s' | _ => False) s
/-- by its body -/
theorem fn2_of {P : Program} {w : World} {K : PySem.W.Frag} {mg : Str → Option Value} {base : Heap} {k : Nat} {f : Addr} {name qual : Str} {params : Arguments} {body : List Stmt} {scope : Scope} {dV kV doc pm cdv ct oc : Value} {an od : Option Addr}
    {osl : Array (Option Value)} {N ps : List Str} {sp : SpG} (lk : K.lookup f = some ⟨oc, od, .func (PySem.W.fnOf name qual params body scope dV kV doc pm an cdv ct), osl⟩) (hcd : PySem.W.codeIn K cdv qual = true) (S : GScope N ps scope)
    (len : ∀ vs H Q E, sp vs H Q E → vs.length = ps.length)
    (hbody : ∀ (A : Around) (outer : List Env) (s : Shared) (H : Hp) (vs : List V) (Q : List V → Hp → Prop) (pn : List (Addr × Obj)), Room k (A.deeper (envOfC qual scope s.heap.objs.size f cdv)) → sp vs H Q E0 →
      ∃ t, GSs2 (gcxOf P w K mg base N qual scope f cdv A outer s H E0 pn) body t ∧ t { nx := fun ys _ H' => Q ys H', rt := fun ys v H' => v = .non ∧ Q ys H' } [] (L2.start N vs) H) :
    Fn2 P w K mg base (k + 1) f (PySem.W.fnOf name qual params body scope dV kV doc pm an cdv ct) ps sp := by
  refine ⟨len, fun A outer s H args us vs Q room env0 bnd rel hsp => ?_⟩
  have lenEq := len _ _ _ _ hsp
  have inK : K.In s.heap := env0.mod.kin.keeps fun b o e => (env0.bs b o e).1
  have unl : s.heap.NoLimit := env0.mod.nolimit.keeps fun b o e => (env0.bs b o e).1
  have kinds : ∀ y ∈ ps.zip us, scope.names.lookup y.1 = some .local ∨ (scope.names.lookup y.1 = some .cell ∧ ((cellsFrom (s.heap.objs.size + 1) scope.names []).lookup y.1).isSome = true) := by
    rintro ⟨n, v⟩ hy
    exact (S.par n (List.of_mem_zip hy).1).imp id fun q => ⟨q, PySem.W.cellsFrom_some _ _ _ (.inl q)⟩
  refine codeAny_call_generator room.depth (inK _ _ lk) rfl S.co S.gen rfl (PySem.W.codeRec_of inK hcd) (bnd _ _ _ _ ?_)
  refine wpAny_newFunctionEnv_cells S.kind kinds fun env hv s1 x => ?_
  subst hv
  have unl1 : s1.heap.NoLimit := unl.keeps x.toInCall.keep
  refine ⟨unl1, ?_⟩
  obtain ⟨h1, tk, es1, _⟩ := x.done
  have os1 : s1.os = s.os := by rw [es1]
  have gen1 : s1.gens = s.gens := by rw [es1]
  have big : s.heap.objs.size < s1.heap.objs.size := x.toInCall.ns.lt
  have old1 : ∀ b o, s.heap.get? b = some o → s1.heap.get? b = some o := x.toInCall.keep
  have main : ∀ (go : Obj) (nm qn : Value) (tk2 : Nat), go.cls = .type "generator" → go.data = .fields #[.int s1.gens.size 0, nm, qn] → go.slots = #[] → (∀ h : Heap, (h.push go).get? h.objs.size = some go) →
      Made2 P w (k + 1) outer H s Q (.ref s1.heap.objs.size) { s1 with gens := s1.gens.push (.fresh (.func body (envOfC qual scope s.heap.objs.size f cdv))), toks := tk2, heap := s1.heap.push go } := by
    intro go nm qn tk2 gc gd gs gp
    have isg : ∀ h : Heap, h.get? s1.heap.objs.size = some go → h.IsGen s1.heap.objs.size s1.gens.size := fun h e => ⟨go, nm, qn, e, gc, gd, gs⟩
    have pushed : (s1.heap.push go).get? s1.heap.objs.size = some go := gp _
    refine ⟨s1.heap.objs.size, s1.gens.size, _, rfl, Nat.le_of_lt big, isg _ pushed, Array.getElem?_push_size .., os1, AllBare.push (by rw [gen1]; exact env0.bare) rfl, unl1.keeps fun b o e => Heap.get?_push_of_some _ e, fun b o e => Heap.get?_push_of_some _ (old1 b o e), ?_⟩
    intro Aw L C s2 roomw frw hL hsz hC0 keep2 os2 bare2
    have envw : Env0 P w K mg base Aw outer s H := ⟨frw, env0.mod, env0.bs, env0.bsz, env0.funs, env0.frf, env0.hok, env0.bare⟩
    obtain ⟨t, ht, hq⟩ := hbody Aw outer s H vs Q [(s1.heap.objs.size, go)] (roomw.deeper _) hsp
    have I1 := inv_startG (E := E0) (N := N) S roomw.hd envw lenEq rel x
    have keep12 : ∀ b o, s1.heap.get? b = some o → s2.heap.get? b = some o := fun b o e => keep2 b o (Heap.get?_push_of_some _ e)
    have I2 : Inv (gcxOf P w K mg base N qual scope f cdv Aw outer s H E0 []) [] (L2.start N vs) H s2 := I1.call' (ch := []) (os2.trans os1.symm) (Un.kept keep12) (I1.hok.kept keep12) bare2 fun b z => by simp at z
    have atA : s2.heap.get? s1.heap.objs.size = some go := keep2 _ go pushed
    have I3 : Inv (gcxOf P w K mg base N qual scope f cdv Aw outer s H E0 [(s1.heap.objs.size, go)]) [] (L2.start N vs) H s2 := Inv.pinnedG I2 fun p hp => by
      rw [List.append_nil] at hp
      rw [List.mem_singleton.mp hp]
      exact ⟨atA, I1.hok.fresh (Nat.le_refl _), Nat.ne_of_gt big, I1.nofs (Nat.le_refl _), fun v q => by rw [gd] at q; cases q⟩
    have I4 : Inv (cxR (gcxOf P w K mg base N qual scope f cdv Aw outer s H E0 [(s1.heap.objs.size, go)]) s) [] (L2.start N vs) H s2 := I3.wish _
    refine seg_func ?_
    refine seg_imp (R := End2 P w outer H C Q) (Y := GY2 (gcxOf P w K mg base N qual scope f cdv Aw outer s H E0 [(s1.heap.objs.size, go)]) L C) (fun _ _ _ _ z => z) (fun n s₀ v s3 kap kap' hk hY => ?_) sizeLine ?_
    · obtain ⟨ys, xx, ip, σ', H', t', _, rv, hC, hI, go2⟩ := hY
      exact ⟨ys, xx, t', H', rv, hC, hI.os, hI.bare, hI.base, hI.hok, isg _ (hI.pin (s1.heap.objs.size, go) (List.mem_append_left _ (List.mem_singleton.mpr rfl))).1, hI.nolimit, fun t3 s4 c3 z => hk _ _ (go2 t3 s4 c3 z)⟩
    · refine ht.run Aw L C [] _ sizeLine [] s2 _ [] _ _ id id s2 (L2.start N vs) H _ ⟨hL, hsz, over_func, rfl, rfl, rfl⟩ (Nat.add_zero _) (fun n ys s₀ s3 fl hn hs => ?_) ⟨s, hC0, I4⟩ hq
      cases fl with
      | next =>
        obtain ⟨σ', H', ⟨t', hC, hI⟩, hQ⟩ := hs
        exact seg_end (.ok (.ret .none)) (.inl ⟨.inl rfl, H', ys, t', hC, hI.os, hI.bare, hI.base, hI.hok, hQ⟩)
      | brk => obtain ⟨_, _, _, q⟩ := hs; exact False.elim q
      | cont => obtain ⟨_, _, _, q⟩ := hs; exact False.elim q
      | ret u =>
        obtain ⟨v, σ', H', ⟨t', hC, hI⟩, rv, ev, hQ⟩ := hs
        subst ev
        have eu : u = Value.none := rv
        subst eu
        exact seg_end (.ok (.ret .none)) (.inl ⟨.inl rfl, H', ys, t', hC, hI.os, hI.bare, hI.base, hI.hok, hQ⟩)
  exact main _ _ _ _ rfl rfl rfl fun h => Heap.get?_push_size _ rfl
theorem Fun.gen2 {P : Program} {w : World} {K : PySem.W.Frag} {mg : Str → Option Value} {base : Heap} {x qual : Str} {st : Stmt} {f : Addr} {fd : FuncData} {N ps : List Str} {k : Nat} {sp : SpG} (F : L2.Fun K x qual st f fd) (S : GScope N ps (defScope st)) (len : ∀ vs H Q E, sp vs H Q E → vs.length = ps.length)
    (hbody : ∀ (cdv : Value) (A : Around) (outer : List Env) (s : Shared) (H : Hp) (vs : List V) (Q : List V → Hp → Prop) (pn : List (Addr × Obj)), Room k (A.deeper (envOfC qual (defScope st) s.heap.objs.size f cdv)) → sp vs H Q E0 →
      ∃ t, GSs2 (gcxOf P w K mg base N qual (defScope st) f cdv A outer s H E0 pn) (defBody st) t ∧ t { nx := fun ys _ H' => Q ys H', rt := fun ys v H' => v = .non ∧ Q ys H' } [] (L2.start N vs) H) : Fn2 P w K mg base (k + 1) f fd ps sp := by
  obtain ⟨oc, od, kV, doc, pm, an, cdv, ct, osl, rfl, lk, hcd⟩ := F.ex
  exact fn2_of lk hcd S len fun A outer s H vs Q pn room hsp => hbody cdv A outer s H vs Q pn room hsp
structure GG2 (P : Program) (w : World) (K : PySem.W.Frag) (mg : Str → Option Value) (base : Heap) (x : Str) (k : Nat) (sp : SpG) : Prop where
  ex : ∃ f fd ps, mg x = some (.ref f) ∧ PySem.W.keepIn K (.ref f) = true ∧ L2.Binds K fd ps [] ∧ Fn2 P w K mg base k f fd ps sp
end PF

set_option Elab.async false
set_option linter.all false
set_option maxRecDepth 100000
set_option maxHeartbeats 1000000
namespace PF
open PySem PySem.Spec PyProof.Rows L2 SlX GenW
/-! ### the consumer: for r in f(..): d = r -/
section
variable {X : Cx} {pins : List (Addr × Obj)} {σ : L2.St} {H : Hp} {s : Shared}
/-- a plain local is stored; the state as it is behind it -/
theorem st_loc {M : Model} {A : Around} {E : Value → Shared → Prop} {i : Nat} {x : Str} {v : V} {u : Value} {Q : Unit → Shared → Prop} (I : Inv X pins σ H s) (nd : X.N.Nodup) (hi : X.N[i]? = some x) (hk : X.env.scope.names.lookup x = some .local) (r : RelV v u)
    (h : ∀ h', Inv X pins (σ.set i (some v)) H { s with heap := h', toks := s.toks + 1 } → Heap.SameBut X.env.locals s.heap h' → Q () { s with heap := h', toks := s.toks + 1 }) : wpAny M A (storeName X.env x u) Q E s := by
  obtain ⟨m, hn, hl⟩ := id I.loc
  have hp : (X.env.scope.kind == .class || (X.env.scope.kind == .module && X.env.locals != X.env.globals)) = false := by rw [I.ok.kind]; rfl
  refine wpAny_storeName_local hk hn (fun h' hn' sb => h h' ?_ sb) hp
  have lo : ∀ {b : Addr}, b < X.s_0.heap.objs.size → b ≠ X.env.locals := fun {b} q => Nat.ne_of_lt (Nat.lt_of_lt_of_le q I.ok.above)
  have il : i < σ.length := by rw [I.len]; exact (List.getElem?_eq_some_iff.mp hi).1
  obtain ⟨oL, _, _, hoL, _⟩ := id hn
  have tr : ∀ {b : Addr} {ob : HO}, H b = some ob → b ≠ X.env.locals := fun {b ob} q z => by rw [z, I.free] at q; cases q
  refine ⟨I.ok, I.os, I.bare, ⟨fun b o q1 q2 q3 q4 => (sb.2 b (lo (Heap.lt_size q1))).trans (I.base.keep b o q1 q2 q3 q4), fun b o q1 q2 q3 q4 => ?_, I.base.free, fun b o q1 q2 => ?_, I.base.tups, I.base.frzs, I.base.tbls⟩, ⟨_, hn', fun j y w q1 q2 q3 => ?_⟩, fun y c q => ?_, I.free, I.freeC, fun p q => ?_, fun b ob q => ?_, by rw [List.length_set]; exact I.len⟩
  · obtain ⟨sl, z⟩ := I.base.slot b o q1 q2 q3 q4
    exact ⟨sl, (sb.2 b (lo (Heap.lt_size q1))).trans z⟩
  · obtain ⟨o', z⟩ := I.base.there b o q1 q2
    exact ⟨o', (sb.2 b (lo (Heap.lt_size q1))).trans z⟩
  · by_cases e : j = i
    · subst e
      rw [List.getElem?_set_self il] at q2
      cases q2
      have ey : y = x := Option.some.inj (q1.symm.trans hi)
      subst ey
      exact ⟨u, r, .inl ⟨hk, if_pos rfl⟩⟩
    · rw [List.getElem?_set_ne (Ne.symm e)] at q2
      obtain ⟨u', r', lk⟩ := hl j y w q1 q2 q3
      have ny : y ≠ x := fun z => e (nodup_ix nd q1 (z ▸ hi))
      exact ⟨u', r', lk.imp (fun ⟨k1, k2⟩ => ⟨k1, (if_neg ny).trans k2⟩) fun ⟨k1, c, k2, k3⟩ => ⟨k1, c, k2, k3.sameBut sb (I.cne y c k2)⟩⟩
  · obtain ⟨w, z⟩ := I.cell y c q
    exact ⟨w, z.sameBut sb (I.cne y c q)⟩
  · obtain ⟨p1, p2, p3, p4, p5⟩ := I.pin p q
    exact ⟨(sb.2 p.1 p3).trans p1, p2, p3, p4, p5⟩
  · refine (I.hok b ob q).stay (fun c w hc z => (sb.2 c ?_).trans z) (fun _ z => z) fun _ _ z => z
    rcases hc with y | y
    · rw [y]; exact tr q
    · exact tr y
end
/-- the entry's state with the frame of a later one -/
theorem Inv.relay {X : Cx} {pins : List (Addr × Obj)} {σ0 σ7 : L2.St} {H1 H' : Hp} {t t' s6 : Shared} (It : Inv X pins σ0 H1 t) (I6 : Inv X pins σ7 H' s6) (loc : ∀ x ∈ X.N, X.env.scope.names.lookup x = some .local) (o : t'.os = t.os) (g : t'.gens = t.gens)
    (tk : ∀ b, b ≠ X.env.locals → t'.heap.get? b = t.heap.get? b) (e : t'.heap.get? X.env.locals = s6.heap.get? X.env.locals) : Inv X pins σ7 H1 t' := by
  have lo : ∀ {b : Addr}, b < X.s_0.heap.objs.size → b ≠ X.env.locals := fun {b} q => Nat.ne_of_lt (Nat.lt_of_lt_of_le q It.ok.above)
  have tr : ∀ {b : Addr} {ob : HO}, H1 b = some ob → b ≠ X.env.locals := fun {b ob} q z => by rw [z, It.free] at q; cases q
  have cl : ∀ {x : Str} {c : Addr} {v : Option Value}, X.env.cells.lookup x = some c → t.heap.IsCell c v → t'.heap.IsCell c v := fun {x c v} q ⟨oc, h1, h2⟩ => ⟨oc, (tk c (It.cne x c q)).trans h1, h2⟩
  refine ⟨It.ok, o.trans It.os, by rw [g]; exact It.bare, ⟨fun b ob q1 q2 q3 q4 => (tk b (lo (Heap.lt_size q1))).trans (It.base.keep b ob q1 q2 q3 q4), fun b ob q1 q2 q3 q4 => ?_, It.base.free, fun b ob q1 q2 => ?_, It.base.tups, It.base.frzs, It.base.tbls⟩, ?_, fun y c q => ?_, It.free, It.freeC, fun p q => ?_, fun b ob q => ?_, I6.len⟩
  · obtain ⟨sl, z⟩ := It.base.slot b ob q1 q2 q3 q4
    exact ⟨sl, (tk b (lo (Heap.lt_size q1))).trans z⟩
  · obtain ⟨o', z⟩ := It.base.there b ob q1 q2
    exact ⟨o', (tk b (lo (Heap.lt_size q1))).trans z⟩
  · obtain ⟨m, ⟨oL, es, ep, hoL, rr⟩, hl⟩ := I6.loc
    refine ⟨m, ⟨oL, es, ep, e.trans hoL, rr⟩, fun k x v q1 q2 q3 => ?_⟩
    obtain ⟨u, ru, lk⟩ := hl k x v q1 q2 q3
    have lx := loc x (List.mem_of_getElem? q1)
    refine ⟨u, ru, .inl ?_⟩
    rcases lk with z | ⟨z, _⟩
    · exact z
    · rcases z with z | z
      · exact absurd (lx.symm.trans z) (by decide)
      · exact absurd (lx.symm.trans z) (by decide)
  · obtain ⟨w, z⟩ := It.cell y c q
    exact ⟨w, cl q z⟩
  · obtain ⟨p1, p2, p3, p4, p5⟩ := It.pin p q
    exact ⟨(tk p.1 p3).trans p1, p2, p3, p4, p5⟩
  · refine (It.hok b ob q).stay (fun c w hc z => (tk c ?_).trans z) (fun _ z => z) fun _ _ z => z
    rcases hc with y | y
    · rw [y]; exact tr q
    · exact tr y
def lastSt (σ : L2.St) (i j : Nat) (ys : List V) : L2.St := match ys.getLast? with
  | none => σ
  | some x => (σ.set i (some x)).set j (some x)
theorem lastSt_snoc {σ : L2.St} {i j : Nat} (ne : i ≠ j) (ys : List V) (x : V) : ((lastSt σ i j ys).set i (some x)).set j (some x) = lastSt σ i j (ys ++ [x]) := by
  unfold lastSt
  rw [List.getLast?_concat]
  cases ys.getLast? with
  | none => rfl
  | some y =>
    show (((σ.set i (some y)).set j (some y)).set i (some x)).set j (some x) = (σ.set i (some x)).set j (some x)
    rw [List.set_comm _ _ (Ne.symm ne), List.set_set, List.set_set]
def tForG (tg : L2.TGen) (i j : Nat) : TS := fun D σ H => tg σ H fun ys H2 => D.nx (lastSt σ i j ys) H2
structure PGen2 (X : Cx) (k : Nat) (e : Expr) (tg : L2.TGen) : Prop where
  run : ∀ (pins : List (Addr × Obj)) (s : Shared) (σ : L2.St) (H : Hp) (cont : List V → Hp → Prop), Inv X pins σ H s → tg σ H cont → wpAny (model X.prog X.w) X.A (eval e X.env)
    (fun u s' => ∃ H1 sc, Inv X pins σ H1 sc ∧ Made2 X.prog X.w k X.stack H1 sc cont u s') X.xe s
theorem pgen2_call {X : Cx} {x : Str} {k : Nat} {sp : SpG} {e : Expr} {es : List Expr} {t : TA} {p pos' : Pos} (G : GG2 X.prog X.w X.K X.mg X.base x k sp) (hr : Room k X.A) (ha : PA X (e :: es) t) (gl : Gl X x := by rfl)
    (hdb : (x == ("__debug__" : Str)) = false := by decide) (he : starEach (e :: es) X.env = (false, eval e X.env) :: starEach es X.env := by rfl) (hpl : (backTo pos' (starEach es X.env)).any (·.1) = false := by rfl) :
    PGen2 X k (.Call (.Name x p) (e :: es) [] pos') (L2.tCallG sp [] E0 t) := by
  obtain ⟨f, fd, ps, h1, h2, h3, F⟩ := G.ex
  refine ⟨fun pins s σ H cont I h => ?_⟩
  refine wpAny_Call_Name_kw (ld_glob I gl h1 ?_ hdb)
  refine PySem.W.callWith_K (h₀ := X.base) I.ok.mod.kin h2 (thn (ha.run pos' pins s σ H _ I h) fun us s1 ⟨vs, H1, I1, r, q⟩ => ⟨I1.kIn, ?_⟩) he hpl
  have q : sp (vs ++ []) H1 cont E0 := q
  rw [List.append_nil] at q
  have hl : us.length = ps.length := by rw [← r.length]; exact F.len _ _ _ _ q
  have bd := h3 s1 us I1.kIn (by rw [List.append_nil]; exact hl)
  rw [List.append_nil] at bd
  refine wpAny_call (codeAny_mono (F.run X.A X.stack s1 H1 ⟨us, []⟩ us vs cont hr I1.env0 bd r q) fun rr s' hq => ?_)
  cases rr with
  | error _ => exact False.elim hq
  | ok fl =>
    cases fl with
    | ret u => exact ⟨H1, s1, I1, hq⟩
    | next => exact False.elim hq
    | brk => exact False.elim hq
    | cont => exact False.elim hq
theorem ps_forG {X : Cx} {i j k : Nat} {xr xd : Str} {e : Expr} {tg : L2.TGen} {p1 p2 p3 pa pos : Pos} (h : PGen2 X k e tg) (hr : Room (k + 3) X.A) (nd : X.N.Nodup) (hi : X.N[i]? = some xr) (hj : X.N[j]? = some xd) (ne : i ≠ j) (fr : X.env.frame = some X.env.locals) (st : X.stack = X.env :: X.outer)
    (loc : ∀ x ∈ X.N, X.env.scope.names.lookup x = some .local) (db : (xr == ("__debug__" : Str)) = false := by decide)
    (hs : ∀ x, foldedSetIterable e X.env x = pure x := by intro _; rfl) (hsw : swapsWith (.Name xr p2) (some (.Name xd p3)) pa.line X.env = pure false := by rfl) :
    PS X (.For (.Name xr p1) e [.Assign [.Name xd p3] (.Name xr p2) pa] [] pos) (tForG tg i j) := by
  refine ⟨fun pins s σ H D I hw => ?_⟩
  refine wpAny_For (thn (h.run pins s σ H _ I hw) fun v s1 ⟨H1, sc, I1, a, g, c, ev, ha, isg, fresh, os1, bare1, unl1, keep1, wake⟩ => ?_) hs
  subst ev
  refine wpAny_pyIter_gen isg ?_
  let L := X.env.locals
  let C : CS := fun ys t => t.heap.objs.size = sc.heap.objs.size ∧ Inv X pins (lastSt σ i j ys) H1 t
  have memL : L ∈ frs X.stack := by
    rw [st]
    unfold frs
    rw [List.filterMap_cons, fr]
    exact List.mem_cons_self ..
  have hsz : ∀ ys ys' t t', C ys t → C ys' t' → t'.heap.objs.size = t.heap.objs.size := fun _ _ _ _ z z' => z'.1.trans z.1.symm
  have li : X.env.scope.names.lookup xr = some .local := loc xr (List.mem_of_getElem? hi)
  have lj : X.env.scope.names.lookup xd = some .local := loc xd (List.mem_of_getElem? hj)
  have laid : ∀ {t : Shared} {ys : List V} {H' : Hp} {s2 : Shared}, C ys t → s2.os = t.os → AllBare s2.gens → Un (frs X.stack) [] H1 H' t.heap s2.heap → HOk X.prog X.w H' s2.heap → Inv X pins (lastSt σ i j ys) H' s2 := fun {t ys H' s2} hC q1 q2 q3 q4 =>
    hC.2.call' (ch := []) q1 q3 q4 q2 fun b z => by simp at z
  refine codeAny_forLoop_any (fun n s' => ∃ gs, s'.gens[g]? = some gs ∧ s'.heap.IsGen a g ∧ s'.heap.NoLimit ∧ gs.Goes (model X.prog X.w) X.A.in1 (End2 X.prog X.w X.stack H1 C fun ys H2 => D.nx (lastSt σ i j ys) H2) (Itm2 X.prog X.w X.stack H1 L a g C) n (.send .none) (s'.setGen g .running))
    ?_ sizeLine ⟨_, fresh, isg, unl1, rfl, ?_⟩
  · rintro n s2 ⟨gs, hgs, isg2, unl2, goes⟩
    have hgl : g < s2.gens.size := (Array.getElem?_eq_some_iff.mp hgs).1
    refine wpAny_gsz (n := g + 1) hgl (next_genG (F := fun n s₀ s3 => ∃ H' ys t, C ys t ∧ s3.os = t.os ∧ AllBare s3.gens ∧ Un (frs X.stack) [] H1 H' t.heap s3.heap ∧ HOk X.prog X.w H' s3.heap ∧ D.nx (lastSt σ i j ys) H') (Er := fun _ _ => False) hr.hd unl2 (by have := hr.dp; omega) isg2 hgs goes
      (fun v s3 gs' hb hY => ?_) (fun s3 hF h' hk => ?_) fun _ _ z => False.elim z)
    · intro gsz
      obtain ⟨ys, x, t, H', rv, hC, os3, bare3, un3, hok3, isg3, unl3, kap⟩ := hY
      have I3 := laid hC os3 bare3 un3 hok3
      have szg : g < s3.gens.size := by
        have q : (s3.setGen g gs').gens.size = s3.gens.size := setGen_size _ _ _
        have q2 : g + 1 ≤ (s3.setGen g gs').gens.size := gsz
        omega
      have I4 : Inv X pins (lastSt σ i j ys) H' (s3.setGen g gs') := laid hC os3 (allBare_setGen bare3 hb) un3 hok3
      refine wpAny_pure ?_
      refine wpAny_assign_Name (st_loc I4 nd hi li rv fun h5 I5 sb5 => ?_)
      refine wpAny_execs_cons (wpAny_Assign_Name (wpAny_Name ?_ db) hsw)
      obtain ⟨m5, hn5, hl5⟩ := id I5.loc
      have il : i < (lastSt σ i j ys).length := by rw [I4.len]; exact (List.getElem?_eq_some_iff.mp hi).1
      obtain ⟨u5, r5, lk5⟩ := hl5 i xr x hi (List.getElem?_set_self il) (.inl li)
      have mx : m5 xr = some u5 := by
        rcases lk5 with ⟨_, q⟩ | ⟨q, _⟩
        · exact q
        · rcases q with q | q
          · exact absurd (li.symm.trans q) (by decide)
          · exact absurd (li.symm.trans q) (by decide)
      refine wpAny_loadName_local I5.ok.kind li hn5 mx ?_
      refine st_loc I5 nd hj lj r5 fun h6 I6 sb6 => ?_
      refine wpAny_execs_nil ?_
      show ∃ m, m < n ∧ _
      obtain ⟨o6, es6, ep6, ho6, d6, _⟩ := I6.loc.choose_spec.1
      obtain ⟨oT, esT, epT, hoT, dT, _⟩ := hC.2.loc.choose_spec.1
      obtain ⟨o3, es3, ep3, ho3, d3, _⟩ := I3.loc.choose_spec.1
      have nf : o6.isFreed = false := (Heap.get?_some_iff.mp ho6).2
      have upL : (t.heap.update L fun _ => o6).get? L = some o6 := Heap.get?_update_self _ hoT nf
      have upO : ∀ b, b ≠ L → (t.heap.update L fun _ => o6).get? b = t.heap.get? b := fun b nb => Heap.get?_update_other _ _ (Ne.symm nb)
      have upS : (t.heap.update L fun _ => o6).objs.size = t.heap.objs.size := Heap.size_after_update ..
      have go := kap { t with heap := t.heap.update L fun _ => o6 } (({ s3.setGen g gs' with heap := h6, toks := (s3.setGen g gs').toks + 1 + 1 } : Shared).setGen g .running)
        ⟨upS.trans hC.1, Inv.relay hC.2 (lastSt_snoc ne ys x ▸ I6) loc rfl rfl upO (upL.trans ho6.symm)⟩
        ⟨rfl, allBare_setGen (s := { s3.setGen g gs' with heap := h6, toks := _ }) (allBare_setGen bare3 hb) rfl, fun b o nb q => (sb6.2 b nb).trans ((sb5.2 b nb).trans q), rfl, upS, upO, ⟨o6, upL, (fun vs z => by rw [d6] at z; cases z), ho6⟩, (fun o v q z => by rw [ho3] at q; cases q; rw [d3] at z; cases z)⟩
      cases n with
      | zero => exact False.elim go
      | succ n =>
        have na : a ≠ L := fun z => by
          obtain ⟨ob, _, _, q1, _, q2, _⟩ := isg3
          rw [z, ho3] at q1
          cases q1
          rw [d3] at q2; cases q2
        refine ⟨n, Nat.lt_succ_self n, gs', setGen_at szg, ?_, ?_, go⟩
        · obtain ⟨ob, nm, qn, q1, q2⟩ := isg3
          exact ⟨ob, nm, qn, (sb6.2 a na).trans ((sb5.2 a na).trans q1), q2⟩
        · exact I6.nolimit
    · intro gsz
      obtain ⟨H', ys, t, hC, os3, bare3, un3, hok3, hD⟩ := hF
      exact wpAny_execs_nil ⟨_, H', laid hC os3 (allBare_setGen bare3 rfl) (un3.trans (Un.kept hk)) (hok3.kept hk), hD⟩
  · refine wake X.A.in1 L C _ ⟨hr.hd, ?_, ?_⟩ I1.ok.frames memL hsz ⟨rfl, I1⟩ (fun b o q => q) os1 (allBare_setGen bare1 rfl)
    · have := hr.dp
      show X.A.depth + 3 * k + 5 < _
      omega
    · have := hr.un
      show X.A.units + 1 + 16 * k + 200 < _
      omega
end PF

set_option Elab.async false
set_option linter.all false
set_option maxRecDepth 100000
set_option maxHeartbeats 1000000
namespace PF
open PySem PySem.Spec PyProof.Rows L2 SlX GenW
/-! ### plain programs: `for` in a generator's body; a loop over a generator -/
section
variable {Γ Γ' Γ'' Δ α β γ : Type} {μ : Md} {E : EV Γ} {E' : EV Γ'} {E'' : EV Γ''} {El : EV Δ} {R : Rp β} {Ra : Rp α} {Rg : Rp γ}
theorem y_for {wi : TI} {g : TG} {tb : TGn} {ml : Γ → M (List α)} {put : Γ → α → Γ'} {mb : List β × Γ' → M (Ct (List β × Γ) (List β × Γ) (List β))} (hi : SI μ E Ra wi ml) (hg : SG E Ra g E' put) (hb : SY μ E' E E R tb mb) :
    SY μ E E El R (tGFor wi g tb) fun z => (ml z.2).bind fun xs => M.forM xs (fun a z => mb (z.1, put z.2 a)) z := fun k F H σ bs vs ρ c D w e al h =>
  hi k F H σ ρ c _ w e (wp_imp h fun xs c1 q J F1 H1 x1 w1 wk => by
    refine ⟨fun i n vs' σ' H' => n = xs.length - i ∧ i ≤ xs.length ∧ ∃ F' bs' ρ' c', Same F1 F' ∧ Wo k F' H' c' ∧ EI k E F' H' σ' ρ' ∧ All2 (R.r F') vs' bs' ∧ (M.forM (Δ := List β × Δ) (xs.drop i) (fun a (z : List β × Γ) => mb (z.1, put z.2 a)) (bs', ρ')).wp c' (YP k F1 E El R D) (XP μ k),
      ⟨xs.length, by simp, Nat.zero_le _, F1, bs, ρ, c1, Same.refl _, w1, e.step x1, all2_st x1.fz al, wp_imp q fun _ _ z => z.fz x1.fz⟩, ?_⟩
    rintro i n vs' σ' H' ⟨rfl, hi, F', bs', ρ', c', sF, w', e', al', q'⟩
    obtain ⟨go, stop⟩ := wk i F' H' sF w'.sub
    by_cases hlt : i < xs.length
    · obtain ⟨g1, g2⟩ := go _ (List.getElem?_eq_getElem hlt)
      rw [List.drop_eq_getElem_cons hlt, M.forM_cons] at q'
      refine .inr ⟨g1, fun vs2 σ2 H2 => ∃ F2 bs2 ρ2 c2, Same F1 F2 ∧ Wo k F2 H2 c2 ∧ EI k E F2 H2 σ2 ρ2 ∧ All2 (R.r F2) vs2 bs2 ∧ (M.forM (Δ := List β × Δ) (xs.drop (i + 1)) (fun a (z : List β × Γ) => mb (z.1, put z.2 a)) (bs2, ρ2)).wp c2 (YP k F1 E El R D) (XP μ k),
        fun vs2 σ2 H2 z => ⟨xs.length - (i + 1), by omega, rfl, hlt, z⟩, fun x H2 y => ?_⟩
      obtain ⟨F2, x2, r2⟩ := g2 x H2 y
      obtain ⟨x2', w2⟩ := w'.call x2
      have s12 : Same F1 F2 := sF.trans x2.fz
      refine hg k F2 H2 σ' ρ' c' x _ _ w2 (e'.step x2') r2 fun σ3 e3 => ?_
      refine hb k F2 H2 σ3 bs' vs' _ c' _ w2 e3 (all2_st x2.fz al') ((mb _).mono c' (fun t c3 z => ?_) (fun _ z => z) q')
      cases t with
      | nx z4 => exact fun F4 H4 σ4 vs4 s4 w4 e4 al4 => ⟨F4, z4.1, z4.2, c3, s12.trans s4, w4, e4, al4, z⟩
      | ct z4 => exact fun F4 H4 σ4 vs4 s4 w4 e4 al4 => ⟨F4, z4.1, z4.2, c3, s12.trans s4, w4, e4, al4, z⟩
      | bk z4 => exact fun F4 H4 σ4 vs4 s4 w4 e4 al4 => z F4 H4 σ4 vs4 (s12.trans s4) w4 e4 al4
      | rt b => exact fun F4 H4 vs4 s4 w4 al4 => z F4 H4 vs4 (s12.trans s4) w4 al4
    · have e0 : i = xs.length := by omega
      subst e0
      rw [List.drop_length, M.forM_nil] at q'
      exact .inl ⟨stop (Nat.le_refl _), q' F' H' σ' vs' sF w' e' al'⟩)
/-- the last one's, if there is one -/
def lastOr {Γ β : Type} (bs : List β) (x : Γ) (f : β → Γ) : Γ := match bs.getLast? with
  | none => x
  | some b => f b
theorem lastOr_nil {Γ β : Type} {x : Γ} {f : β → Γ} : lastOr [] x f = x := rfl
theorem lastOr_snoc {Γ β : Type} {bs : List β} {b : β} {x : Γ} {f : β → Γ} : lastOr (bs ++ [b]) x f = f b := by unfold lastOr; rw [List.getLast?_concat]
theorem loc_of {N : List Str} {sc : Scope} (h : (N.all fun x => decide (sc.names.lookup x = some .local)) = true) : ∀ x ∈ N, sc.names.lookup x = some .local := fun x hx => of_decide_eq_true (List.all_eq_true.mp h x hx)
/-- for r in f(..): d = r -/
theorem s_forG {S : RA α} {ta : TA} {ma : Γ → M α} {m : α → M (List β)} {i j : Nat} {f : Γ → Γ'} {p1 : Γ → Unit → Γ'} {p2 : Γ' → β → Γ'} (ha : SA md0 E S ta ma) (hf : Fg E E' f) (h1 : PutS E i sUn E' p1) (e1 : ∀ ρ, p1 ρ () = f ρ) (h2 : PutS E' j (sVal R) E' p2) :
    SS md0 E E' El Rg (tForG (L2.tCallG (spOfG S R m) [] E0 ta) i j) fun ρ => (ma ρ).bind fun a => (m a).still.bind fun bs => .ret (.nx (lastOr bs (f ρ) (p2 (f ρ)))) := fun k F H σ ρ c D w e h =>
  ha k F H σ ρ c _ w e (wp_imp h fun a c1 q vs F1 H1 x1 w1 r1 => by
    show spOfG S R m (vs ++ []) H1 _ E0
    rw [List.append_nil]
    refine ⟨F1, a, w1.sub, r1, (m a).mono 0 (fun bs _ z ys F' H' x al => ?_) (fun _ z => XP.no w1 z) q⟩
    obtain ⟨x2, w2⟩ := w1.call x
    have e2 : EI k E F' H' σ ρ := (e.step x1).step x2
    refine z F' H' _ (x1.fz.trans x2.fz) w2 ?_
    have al2 : All2 (R.r F') ys bs := al
    rcases List.eq_nil_or_concat bs with rfl | ⟨bi, b, eb⟩
    · cases al2
      exact ⟨hf.r e2.r, e2.nd.sublist (hf.ow σ)⟩
    · rw [List.concat_eq_append] at eb
      subst eb
      obtain ⟨yi, y, ey, ry⟩ : ∃ yi y, ys = yi ++ [y] ∧ R.r F' y b := by
        rcases List.eq_nil_or_concat ys with rfl | ⟨yi, y, ey⟩
        · have := al2.len
          simp at this
        · rw [List.concat_eq_append] at ey
          subst ey
          have hl := al2.len
          rw [List.length_append, List.length_append] at hl
          obtain ⟨y', hy, r'⟩ := al2.get (i := bi.length) (n := b) (by simp)
          have hlen : yi.length = bi.length := by simpa using hl
          rw [← hlen, List.getElem?_append_right (Nat.le_refl _), Nat.sub_self] at hy
          cases hy
          exact ⟨yi, y, rfl, r'⟩
      subst ey
      have el : lastSt σ i j (yi ++ [y]) = (σ.set i (some y)).set j (some y) := by unfold lastSt; rw [List.getLast?_concat]
      show EI k E' F' H' (lastSt σ i j (yi ++ [y])) (lastOr (bi ++ [b]) (f ρ) (p2 (f ρ)))
      rw [el, lastOr_snoc]
      have q1 : EI k E' F' H' (σ.set i (some y)) (f ρ) := e1 ρ ▸ ⟨h1.put e2.r trivial, h1.nd e2.nd fun _ z => nomatch z⟩
      exact ⟨h2.put q1.r ⟨y, rfl, ry⟩, h2.nd q1.nd fun _ z => nomatch z⟩)
end
end PF

set_option Elab.async false
set_option linter.all false
set_option maxRecDepth 100000
set_option maxHeartbeats 1000000
namespace PF
open PySem PySem.Spec PyProof.Rows L2 SlX
/-! ### tuples of ints: sorted, max, index -/
section
variable {prog : Program} {w : World} {A : Around} {E : Value → Shared → Prop} {s : Shared}
theorem sortedT_ints {l : Addr} {vs : List Value} {ns : List Int} {Q : Value → Shared → Prop} (hl : IsTup s.heap l vs.toArray) (hI : IntsAre vs ns) (h64 : vs.length < 64)
    (q : ∀ (out : Array Value) (ms : List Int), IntsAre out.toList ms → ms.Perm ns → ms.Pairwise (· ≤ ·) → Q (.ref (s.heap.objs.size + 1)) { s with heap := sortedAll s.heap vs out }) :
    wpAny (model prog w) A (call (.builtin "sorted") [.ref l]) Q E s := by
  refine Calls.call_function_entry kind_sorted plain_sorted entry_sorted (args_sorted1 _) ?_
  unfold Builtin.«sorted»
  refine wpAny_bind (m := checkCount "sorted" 1 1 _) (wpAny_pure ?_)
  refine wpAny_bind (collect_tup hl ?_ (by rw [sizeLine_eq]; omega))
  refine wpAny_bind (wpAny_newList ?_)
  have sz : ((s.heap.push (seqObj "list" #[] 0)).update s.heap.objs.size (Obj.mapSeq (· ++ vs.toArray))).objs.size = s.heap.objs.size + 1 := by rw [Heap.size_update, size_push']
  have there : (((s.heap.push (seqObj "list" #[] 0)).update s.heap.objs.size (Obj.mapSeq (· ++ vs.toArray))).push (seqObj "list" vs.toArray 0)).get? (s.heap.objs.size + 1) = some (seqObj "list" vs.toArray 0) := by
    rw [← sz]; exact Heap.get?_push_size _ rfl
  show wpAny _ _ _ _ _ { s with heap := ((s.heap.push (seqObj "list" #[] 0)).update s.heap.objs.size (Obj.mapSeq (· ++ vs.toArray))).push (seqObj "list" vs.toArray 0) }
  rw [sz]
  refine wpAny_bind (wpAny_holding (wpAny_call_entry slot_list_sort ⟨_, there, rfl⟩ entry_list_sort (list_sort_tree there hI h64 fun out ms b1 b2 b3 => ⟨_, rfl, ?_⟩) (args_list_sort _)))
  exact wpAny_pure ⟨_, rfl, q out ms b1 b2 b3⟩
theorem maxT_ints {l : Addr} {its : List Value} {ns : List Int} {Q : Value → Shared → Prop} (hh : A.handled = none) (hl : IsTup s.heap l its.toArray) (hi : IntsAre its ns) (hne : 0 < ns.length)
    (q : ∀ h' tk m t', (∀ b o, s.heap.get? b = some o → h'.get? b = some o) → m ∈ ns → (∀ a, a ∈ ns → a ≤ m) → Q (.int m t') { s with heap := h', toks := tk }) : wpAny (model prog w) A (call (.builtin "max") [.ref l]) Q E s := by
  obtain ⟨xs, e⟩ := hi.allInts.items
  have hn : numsOf (intItems xs).toList = ns := by rw [← e]; exact hi.numsOf
  rw [nums_intItems] at hn
  subst hn
  have ht : s.heap.IsTuple l (intItems xs) := by rw [← e]; exact hl
  have hsz : 0 < xs.size := by simpa using hne
  have lt : l < s.heap.objs.size := by obtain ⟨_, z, _⟩ := ht; exact Heap.lt_size z
  refine call_max_walk (wpAny_pyIter_tuple ht ?_)
  refine ⟨_, _, _, _, _, _, _, rfl, Walks.tuple (A := A.in1) hh _ l (Nat.ne_of_lt lt) (intItems xs), ⟨⟨_, Heap.get?_push_size _ rfl, rfl, rfl⟩, ht.push _⟩, fun b hb => ?_, by simpa [intItems] using hsz, CmpOf.ints_gt (numAt xs) (fun _ _ => intItems_at), fun v h' tk hv hk => ?_⟩
  · show b < (s.heap.push _).objs.size
    rw [Heap.size_push]
    rcases List.mem_cons.mp hb with z | hb
    · rw [z]; exact Nat.lt_succ_self _
    · rw [List.mem_singleton.mp hb]; exact Nat.lt_succ_of_lt lt
  · have hv : (intItems xs)[argBest (fun i j => decide (numAt xs i > numAt xs j)) (xs.size - 1)]? = some v := by simpa [intItems] using hv
    obtain ⟨t, rfl⟩ := intItems_at hv
    obtain ⟨b1, b2⟩ := argBest_gt (numAt xs) (xs.size - 1)
    refine q h' tk _ t (fun b o z => hk b o (fun hm => ?_) (Heap.get?_push_of_some _ z)) ?_ fun a ha => ?_
    · rw [List.mem_singleton.mp hm] at z
      exact absurd (Heap.lt_size z) (Nat.lt_irrefl _)
    · rw [numAt_eq]; exact PySem.getD_mem (by rw [List.length_map, Array.length_toList]; omega)
    · obtain ⟨j, hj, rfl⟩ := mem_getD ha
      rw [List.length_map, Array.length_toList] at hj
      rw [← numAt_eq]; exact b2 j (by omega)
end
def rSortedIT (K : PySem.W.Frag) : List V → Hp → VK → Prop := fun vs H Q => ∃ (a : Addr) (ns : List Int), vs = [V.ref a] ∧ SqT K H a (ns.map V.int) ∧ ns.length < 64 ∧ ∀ (ms : List Int) (p : Addr), ms.Perm ns → ms.Pairwise (· ≤ ·) → H p = none → Q (.ref p) (upd H p (.lst (ms.map V.int)))
def rMaxT (K : PySem.W.Frag) : List V → Hp → VK → Prop := fun vs H Q => ∃ (a : Addr) (ns : List Int), vs = [V.ref a] ∧ SqT K H a (ns.map V.int) ∧ 0 < ns.length ∧ ∀ m, m ∈ ns → (∀ y, y ∈ ns → y ≤ m) → Q (.int m) H
def rIndexIT (K : PySem.W.Frag) : V → List V → Hp → VK → Prop := fun x xs H Q => ∃ p, ∃ ys : List Int, ∃ z j, x = .ref p ∧ xs = [.int z] ∧ SqT K H p (ys.map V.int) ∧ ys[j]? = some z ∧ (∀ m, m < j → ys[m]? ≠ some z) ∧ Q (.int (j : Nat)) H
section
variable {X : Cx} {K : PySem.W.Frag}
theorem cr_sortedIT : CallR X (.builtin "sorted") (rSortedIT X.K) := by
  intro pins s σ H vs us Q I r h
  obtain ⟨a, ns, rfl, hs, h64, q⟩ := h
  obtain ⟨its, rv, hl, _⟩ := I.tuple hs
  rw [Vals.ref1 r]
  have hi := rv.ints
  refine sortedT_ints hl hi (by rw [hi.length]; exact h64) fun out ms b1 b2 b3 => ?_
  obtain ⟨ep, e2⟩ := PyProof.Rows.sortedAll_at s.heap its out
  have len : (ms.map V.int).length ≤ sizeLine := by rw [List.length_map, b2.length_eq]; exact small64 h64
  refine ⟨.ref _, upd H (s.heap.objs.size + 1) (.lst (ms.map V.int)), I.laid (t' := s.toks) (fun _ _ => PyProof.Rows.sortedAll_old) (Nat.le_succ _) ⟨len, out.toList, ep, vals_of_ints b1, e2⟩, rfl, q ms _ b2 b3 (I.hok.fresh (Nat.le_succ _))⟩
theorem cr_maxT (hc : X.calm = true) (hK : X.K = K := by rfl) : CallR X (.builtin "max") (rMaxT K) := by
  subst hK
  intro pins s σ H vs us Q I r h
  obtain ⟨a, ns, rfl, hs, hne, q⟩ := h
  obtain ⟨its, rv, hl, _⟩ := I.tuple hs
  rw [Vals.ref1 r]
  exact maxT_ints (I.ok.hd hc) hl rv.ints hne fun h' tk m t' hk b1 b2 => ⟨.int _, H, I.kept hk, ⟨_, rfl⟩, q m b1 b2⟩
theorem flat_ints (ys : List Int) : (ys.map V.int).all flatV = true := by
  rw [List.all_map]
  exact List.all_eq_true.mpr fun _ _ => rfl
theorem mt_tup_indexI : MtR X "tuple.index" (rIndexIT X.K) := by
  intro pins s σ H x xs v us Q I rx rs h
  obtain ⟨p, ys, z, j, rfl, rfl, hq, hy, no, q⟩ := h
  cases rx
  obtain ⟨u, rfl, t, rfl⟩ := vals1 rs
  obtain ⟨its, r, pl, _⟩ := I.tuple hq
  obtain ⟨⟨cls, dd, dt, sl⟩, ho, hc, n, hd⟩ := pl
  simp only at hc hd
  subst hc hd
  have size : its.toArray.size = ys.length := by rw [List.size_toArray, ← r.length, List.length_map]
  have hj : j < its.toArray.size := by rw [size]; exact (List.getElem?_eq_some_iff.mp hy).1
  have each : ∀ (m : Nat) (hm : m < its.toArray.size), ∃ y t', ys[m]? = some y ∧ its.toArray[m] = Value.int y t' := fun m hm => by
    have hm' : m < ys.length := by rw [← size]; exact hm
    obtain ⟨w, hw, t', ew⟩ := r.get (i := m) (x := .int ys[m]) (by simp [hm'])
    refine ⟨ys[m], t', List.getElem?_eq_getElem hm', ?_⟩
    have e := (List.getElem?_eq_some_iff.mp hw).2
    rw [← ew, ← e]
    simp
  refine call_meets PySem.F.slot_tuple_index ⟨_, ho, rfl⟩ PySem.F.entry_tuple_index (PySem.F.args_tuple_index_2 _ _) (TI.tuple_indexAt p its.toArray n dd sl (.int z t) (eqU (.int z)) j hj ?_ ?_)
    ⟨ho, fun w hw => mem_eqAt (x := .int z) ⟨t, rfl⟩ rfl r (flat_ints ys) w (by simpa using hw), ⟨.int (j : Nat), H, I.tok _, ⟨_, rfl⟩, q⟩⟩
  · obtain ⟨y, t', b1, b2⟩ := each j hj
    rw [hy] at b1
    cases b1
    rw [b2]
    show (z == z) = true
    exact beq_self_eq_true z
  · intro m hm hmj
    obtain ⟨y, t', b1, b2⟩ := each m hm
    rw [b2]
    show (y == z) = false
    exact beq_eq_false_iff_ne.mpr fun e => no m hmj (e ▸ b1)
end
def tTupD (t : TA) : TE := fun σ H Q => t σ H fun xs H1 => xs.length ≤ sizeLine ∧ ∀ p o, o.dict = none → H1 p = none → Q (.ref p) (upd H1 p (.frz o (.tup xs)))
def tTI (K : PySem.W.Frag) (to te : TE) : TE := fun σ H Q => to σ H fun x H1 => (∃ p vs o, x = .ref p ∧ H1 p = some (.frz o (.tup vs)) ∧ o.dict = none) ∧ te σ H1 fun y H2 => rIndexIT K x [y] H2 Q
section
variable {X : Cx} {K : PySem.W.Frag} {es : List Expr} {t : TA} {to te : TE} {o e : Expr} {pos apos cpos : Pos}
theorem pe_tupD {x1} (h : PA X es t) : PE X (.Tuple es x1 pos) (tTupD t) := by
  refine ⟨fun pins s σ H Q I hq => ?_⟩
  refine wpAny_Tuple_spliced (thn (h.run pos pins s σ H _ I hq) fun us s1 ⟨xs, H1, I1, r, z, q⟩ => ⟨by rw [← r.length]; exact z, ?_⟩)
  have hf : H1 s1.heap.objs.size = none := I1.hok.fresh (Nat.le_refl _)
  refine ⟨.ref s1.heap.objs.size, _, I1.laid (t' := s1.toks) (fun b u e => Heap.get?_push_of_some _ e) (Nat.le_refl _) ?_, rfl, q _ { cls := .type "tuple", data := .seq us.toArray } rfl hf⟩
  exact ⟨Heap.get?_push_size _ rfl, z, us, r, ⟨_, Heap.get?_push_size _ rfl, rfl, _, rfl⟩⟩
theorem call_tuple_ofD : CallR X (.type "tuple") (fun xs H Q => ∃ p ys, xs = [.ref p] ∧ SqL X.K H p ys ∧ ∀ l o, o.dict = none → H l = none → Q (.ref l) (upd H l (.frz o (.tup ys)))) := by
  intro pins s σ H xs us Q I r h
  obtain ⟨p, ys, rfl, hq, q⟩ := h
  obtain ⟨u, rfl, rx⟩ := vals1 r
  cases rx
  obtain ⟨its, r', pl, hz⟩ := I.list hq
  have hlen := r'.length
  refine call_tuple_list pl.isList (fun h' kp => ?_) (by simp only [List.size_toArray] <;> omega)
  have I1 : Inv X pins σ H { s with heap := h' } := I.kept (t' := s.toks) kp
  have I2 : Inv X pins σ (upd H h'.objs.size (.frz { cls := .type "tuple", data := .seq its.toArray } (.tup ys))) { s with heap := h'.push { cls := .type "tuple", data := .seq its.toArray } } :=
    I1.laid (t' := s.toks) (fun b o e => Heap.get?_push_of_some _ e) (Nat.le_refl _) ⟨Heap.get?_push_size _ rfl, hz, its, r', IsTup.new _ _⟩
  exact ⟨.ref h'.objs.size, _, I2, rfl, q _ _ rfl (I1.hok.fresh (Nat.le_refl _))⟩
theorem pe_tIdx (ho : PE X o to) (he : PE X e te) (hK : X.K = K := by rfl)
    (hbase : attributeBase o "index" X.env (eval o X.env) = eval o X.env := by rfl)
    (hfew : ((backTo cpos (starEach [e] X.env)).all (fun x => !x.1) && (backToKw cpos (keywordEach [] X.env)).all (fun x => x.1.isSome)
      && decide ([e].length + ([] : List Keyword).length + (if ([] : List Keyword).isEmpty then 0 else 1) < 30)) = true := by rfl)
    (hline : (apos.endLine == cpos.line) = true := by rfl) (hs : starEach [e] X.env = (false, eval e X.env) :: starEach [] X.env := by rfl) (hplain : (backTo cpos (starEach [] X.env)).any (·.1) = false := by rfl) :
    PE X (.Call (.Attribute o "index" apos) [e] [] cpos) (tTI K to te) := by
  subst hK
  refine ⟨fun pins s σ H Q I h => ?_⟩
  refine wpAny_Call_method_late hbase hfew hline rfl (thn (ho.run pins s σ H _ I h) fun v s1 ⟨x, H1, I1, r1, ty, q1⟩ => ?_)
  obtain ⟨p, vs, ob, rfl, hp, hd⟩ := ty
  cases r1
  obtain ⟨hg, _, its, _, o2, e2, c2, _⟩ := (show ObjOk X.prog X.w H1 s1.heap p (.frz ob (.tup vs)) from I1.hok p _ hp)
  rw [hg] at e2
  cases e2
  refine ⟨"tuple", _, PySem.F.plainAttrs_tuple, PySem.F.slot_tuple_index, PySem.F.type_tuple_index, ⟨_, hg, c2⟩, fun a z => ?_, ?_⟩
  · cases z
    exact ⟨_, hg, hd⟩
  have hA := (pa_cons he pa_nil hs).run cpos pins s1 σ H1 _ I1 (show tCons te tNil σ H1 (fun ys H2 => rIndexIT X.K (.ref p) ys H2 Q) from q1)
  rw [hs] at hA ⊢
  refine Calls.callWith_builtin (by show (false || (backTo cpos (starEach [] X.env)).any (·.1)) = false; rw [hplain] <;> rfl) (Calls.evalArgs_plain ?_)
  exact thn hA fun us s2 ⟨vs, H2, I2, r2, q2⟩ => mt_tup_indexI pins s2 σ H2 (.ref p) vs _ us Q I2 rfl r2 q2
end
section
variable {Γ Γ' Δ α β γ : Type} {μ : Md} {E : EV Γ} {E' : EV Γ'} {El : EV Δ} {Ra : Rp α} {Rb : Rp β} {R : Rp γ} {K : PySem.W.Frag}
theorem int_tup {F H : Hp} {v : V} {xs : List Int} (s : Same F H) (h : (rTup K rInt).r F v xs) : ∃ p, v = .ref p ∧ SqT K H p (xs.map V.int) := by
  obtain ⟨p, vs, rfl, hp, al⟩ := h
  exact ⟨p, rfl, by rw [← al.to_map V.int fun _ _ z => z]; exact same_seqT s hp⟩
theorem c_sortIT : CaN μ (rSortedIT K) (a1 (rTup K rInt)) rInt fun a => .need (a.1.length < 64) (.anyOf fun b => b.Perm a.1 ∧ b.Pairwise (· ≤ ·)) := fun k F H c vs a Q w r q => by
  obtain ⟨v, e, r⟩ := one r
  obtain ⟨p, ev, hp⟩ := int_tup (K := K) w.sub r
  exact ⟨p, a.1, by rw [e, ev], hp, q.1, fun ns p h1 h2 n => VN.newL w (q.2 ns ⟨h1, h2⟩) n (All2.of_map (β := Unit) V.int (fun _ => rfl) ns)⟩
theorem c_maxT : CaS μ (rMaxT K) (a1 (rTup K rInt)) rInt fun a => .need (0 < a.1.length) (.anyOf fun m => m ∈ a.1 ∧ ∀ y ∈ a.1, y ≤ m) := fun k F H c vs a Q w r q => by
  obtain ⟨v, e, r⟩ := one r
  obtain ⟨p, ev, hp⟩ := int_tup (K := K) w.sub r
  exact ⟨p, a.1, by rw [e, ev], hp, q.1, fun m h1 h2 => VP.now w (q.2 m ⟨h1, h2⟩) rfl⟩
/-! tuples without names of their own: what `index` wants -/
def rTpd {α : Type} (R : Rp α) : Rp (List α) :=
  ⟨fun F v xs => ∃ p vs o, v = .ref p ∧ F p = some (.frz o (.tup vs)) ∧ o.dict = none ∧ All2 (R.r F) vs xs, fun s ⟨p, vs, o, e, h, d, t⟩ => ⟨p, vs, o, e, s _ _ h, d, t.imp fun _ _ g => R.st s g⟩⟩
theorem tpd_tup {F : Hp} {v : V} {xs : List α} (h : (rTpd Ra).r F v xs) : (rTup K Ra).r F v xs := by
  obtain ⟨p, vs, o, e, h, d, t⟩ := h
  exact ⟨p, vs, e, .inl (.inr ⟨o, h⟩), t⟩
theorem e_tpd {t : TE} {m : Γ → M (List α)} (ht : SE μ E (rTpd Ra) t m) : SE μ E (rTup K Ra) t m := fun k F H σ ρ c Q w e h =>
  ht k F H σ ρ c Q w e (wp_imp h fun _ _ q v F1 H1 x1 w1 r1 => q v F1 H1 x1 w1 (tpd_tup r1))
theorem new_tpd {F H : Hp} {c : Nat} {Q : VK} {xs : List α} {vs : List V} {k : Cn} (w : Wo k F H c) (q : VP k F H (rTpd Ra) Q xs c) (al : All2 (Ra.r F) vs xs) : ∀ p o, o.dict = none → H p = none → Q (.ref p) (upd H p (.frz o (.tup vs))) := fun p o d n =>
  VP.newT w q n fun s => ⟨p, vs, o, rfl, upd_same, d, al.imp fun _ _ g => Ra.st s g⟩
theorem e_tupLD {ta : TA} {ma : Γ → M (List α)} (ha : SAL μ E Ra ta ma) : SE μ E (rTpd Ra) (tTupD ta) fun ρ => (ma ρ).bind fun xs => .need (xs.length ≤ sizeLine) (.ret xs) := fun k F H σ ρ c Q w e h =>
  ha k F H σ ρ c _ w e (wp_imp h fun xs c1 ⟨h0, q⟩ vs F1 H1 x1 w1 al => ⟨by rw [al.len]; exact h0, new_tpd w1 (VP.ext x1 q) al⟩)
theorem c_tupLD : CaS μ (fun xs H Q => ∃ p ys, xs = [.ref p] ∧ SqL K H p ys ∧ ∀ l o, o.dict = none → H l = none → Q (.ref l) (upd H l (.frz o (.tup ys)))) (a1 (rLs Ra)) (rTpd Ra) fun a => .ret a.1 := fun k F H c vs a Q w r q => by
  obtain ⟨v, e, r⟩ := one r
  obtain ⟨p, ws, ev, hp, al⟩ := r
  exact ⟨p, ws, by rw [e, ev], .of (w.sub _ _ hp), new_tpd w q al⟩
theorem e_indexIT {to te : TE} {mo : Γ → M (List Int)} {m : Γ → M Int} (ho : SE μ E (rTpd rInt) to mo) (he : SE μ E rInt te m) :
    SE μ E rInt (tTI K to te) fun ρ => (mo ρ).bind fun xs => (m ρ).bind fun a => .need (a ∈ xs) (.ret (xs.idxOf a : Int)) := fun k F H σ ρ c Q w e h =>
  ho k F H σ ρ c _ w e (wp_imp h fun xs c1 q v F1 H1 x1 w1 r0 => by
    obtain ⟨p, vs, o, ev, hp, hd, al⟩ := r0
    refine ⟨⟨p, vs, o, ev, w1.sub _ _ hp, hd⟩, he k F1 H1 σ ρ c1 _ w1 (e.step x1) (wp_imp q fun a c2 ⟨m, q⟩ u F2 H2 x2 w2 r2 => ?_)⟩
    obtain ⟨p2, ev2, hp2⟩ := int_tup (K := K) w2.sub (tpd_tup (K := K) ((rTpd rInt).st x2.fz (⟨p, vs, o, ev, hp, hd, al⟩ : (rTpd rInt).r F1 v xs)))
    have hl : xs.idxOf a < xs.length := List.idxOf_lt_length_iff.mpr m
    refine ⟨p2, xs, a, xs.idxOf a, ev2, by rw [r2], hp2, ?_, fun i hi z => ?_, q _ F2 H2 (x1.trans x2) w2 rfl⟩
    · rw [List.getElem?_eq_getElem hl, List.getElem_idxOf]
    · have hi2 : i < xs.length := by omega
      have e2 := (List.getElem?_eq_some_iff.mp z).2
      have := List.not_of_lt_findIdx (p := (· == a)) (xs := xs) (i := i) hi
      simp [e2] at this)
/-- list(range(..)) -/
theorem n_listRg1 {te : TE} {m : Γ → M Int} (he : SE μ E rInt te m) : SN μ E rInt (tLstRg (tRg1 te)) fun ρ => (m ρ).bind fun i => .need (0 ≤ i ∧ i ≤ 16777216) (.ret (rng 0 i)) := fun k F H σ ρ c Q w e h =>
  he k F H σ ρ c _ w e (wp_imp h fun i c1 ⟨⟨h0, h1⟩, q⟩ v F1 H1 x1 w1 r1 => by
    refine ⟨i, r1, RgOk.of_le (by omega) h1 (by omega) h0, fun p n => ?_⟩
    have al : All2 (rInt.r F1) (rgV 0 i) (rng 0 i) := by
      unfold rgV
      rw [rng_eq]
      have : ∀ l : List Nat, All2 (rInt.r F1) (l.map fun j => V.int (0 + (j : Nat))) (l.map fun j : Nat => (0 : Int) + (j : Int)) := fun l => by
        induction l with
        | nil => exact .nil
        | cons _ _ ih => exact .cons rfl ih
      exact this _
    exact VN.newL w1 (VN.ext x1 q) n al)
theorem i_zipL {ta tb : TE} {ma : Γ → M (List α)} {mb : Γ → M (List β)} (ha : SE μ E (rLs Ra) ta ma) (hb : SE μ E (rLs Rb) tb mb) :
    SI μ E (rTx K (aCons Ra (aCons Rb aNil))) (RZ.iZipA K (tCons ta (tCons tb tNil))) fun ρ => (ma ρ).bind fun xs => (mb ρ).bind fun ys => .ret (zip2 xs ys) := fun k F H σ ρ c W w e h =>
  ha k F H σ ρ c _ w e (wp_imp h fun xs c1 q v F1 H1 x1 w1 r1 => hb k F1 H1 σ ρ c1 _ w1 (e.step x1) (wp_imp q fun ys c2 q u F2 H2 x2 w2 r2 => by
    obtain ⟨p, vs, ev, hp, al⟩ := (rLs Ra).st x2.fz r1
    obtain ⟨p2, vs2, ev2, hp2, al2⟩ := r2
    refine ⟨p, p2, vs, vs2, by rw [ev, ev2], .inl ⟨.of (w2.sub _ _ hp), .of (w2.sub _ _ hp2), q _ F2 H2 (x1.trans x2) w2 fun i F' H' s1 s2 => ?_⟩⟩
    have sq1 : SqL K H' p vs := .of (s2 _ _ (s1 _ _ hp))
    have sq2 : SqL K H' p2 vs2 := .of (s2 _ _ (s1 _ _ hp2))
    refine ⟨fun a hz => ?_, fun hi => ?_⟩
    · unfold zip2 at hz
      rw [List.getElem?_map] at hz
      cases hq : (xs.zip ys)[i]? with
      | none => rw [hq] at hz; cases hz
      | some ab =>
        rw [hq] at hz
        cases hz
        obtain ⟨h1, h2⟩ := List.getElem?_zip_eq_some.mp hq
        obtain ⟨x, hx, rx⟩ := al.get h1
        obtain ⟨y, hy, ry⟩ := al2.get h2
        refine ⟨⟨vs, vs2, x, y, sq1, sq2, hx, hy⟩, fun z H'' ⟨T, x', y', ez, nT, eH, g1, g2⟩ => ?_⟩
        have ex : x' = x := Option.some.inj ((g1 _ sq1).symm.trans hx)
        have ey : y' = y := Option.some.inj ((g2 _ sq2).symm.trans hy)
        subst ex ey ez eH
        have xn := ExtX.new (p := none) s2 nT (.tup [x', y'])
        exact ⟨_, xn, T, _, rfl, .of upd_same, x', _, rfl, Ra.st (s1.trans xn.fz) rx, y', _, rfl, Rb.st (s1.trans xn.fz) ry, rfl⟩
    · refine ⟨vs, vs2, sq1, sq2, ?_⟩
      unfold zip2 at hi
      rw [List.length_map, List.length_zip] at hi
      rw [al.len, al2.len]
      omega))
/-- xs.pop() -/
theorem s_popX {i : Nat} {g : Γ → List α} {put : Γ → List α → Γ} (hm : ModS E i Ra g put) :
    SS μ E E El R (tDrop (tBM0 K "list" rPop (tVar i))) fun ρ => .bind (.the (g ρ).getLast?) fun _ => .ret (.nx (put ρ (g ρ).dropLast)) := fun k F H σ ρ c D w e h => by
  obtain ⟨a, ea, q⟩ := h
  obtain ⟨p, vs, h1, h2, h3, h4⟩ := hm.get e.r
  obtain ⟨_, f0, n0, np⟩ := E.has e.r h4
  rw [List.getLast?_eq_getElem?] at ea
  obtain ⟨u, hu, ru⟩ := h3.get ea
  refine ⟨.ref p, h1, tyL h2, p, vs, u, rfl, rfl, h2, by rw [h3.len]; exact hu, ?_⟩
  have dl : ∀ {vs : List V} {xs : List α}, All2 (Ra.r F) vs xs → All2 (Ra.r F) vs.dropLast xs.dropLast := fun {vs xs} h => by
    have e1 := List.dropLast_eq_take (l := vs)
    have e2 := List.dropLast_eq_take (l := xs)
    rw [e1, e2, h.len]
    exact h.take _
  exact q F _ σ (Same.refl F) (w.mod n0 f0) ⟨hm.mod e.r e.nd h1 (dl h3), e.nd⟩
/-- a, b = e, f, where the names are cells -/
theorem s_parT {Γ'' : Type} {E'' : EV Γ''} {S : SR α} {T : SR β} {i j : Nat} {ta tb : TE} {ma : Γ → M α} {mb : Γ → M β} {put : Γ → α → Γ'} {put' : Γ' → β → Γ''} (ha : SV μ E S ta ma) (hb : SV μ E T tb mb) (hp : PutS E i S E' put) (hp' : PutS E' j T E'' put') :
    SS μ E E'' El R (tAsg (tTup (tCons ta (tCons tb tNil))) (gTup K 2 (gCons (gName i) (gCons (gName j) gNil)))) fun ρ => (ma ρ).bind fun a => (mb ρ).bind fun b => .ret (.nx (put' (put ρ a) b)) := fun k F H σ ρ c D w e h =>
  ha k F H σ ρ c _ w e (wp_imp h fun a c1 q v F1 H1 x1 w1 r1 o1 => hb k F1 H1 σ ρ c1 _ w1 (e.step x1) (wp_imp q fun b c2 q u F2 H2 x2 w2 r2 o2 => by
    refine ⟨le_n 2, fun p n => ?_⟩
    have x3 := ExtX.own (p := k.p) w2.sub n (.tup [v, u])
    have w3 := w2.own n (.tup [v, u])
    have e2 := ((e.step x1).step x2).step x3
    have r1' := S.step x3 (S.step x2 r1)
    have r2' := T.step x3 r2
    have e3 : EI k E' F2 _ (σ.set i (some v)) (put ρ a) := ⟨hp.put e2.r r1', hp.nd e2.nd fun D' z y => absurd (o1 D' z) (E.has e.r y).1⟩
    refine ⟨p, [v, u], rfl, .inl (.inl upd_same), rfl, v, [u], rfl, u, [], rfl, rfl, q F2 _ _ ((x1.fz.trans x2.fz).trans x3.fz) w3 ⟨hp'.put e3.r r2', hp'.nd e3.nd fun D' z y => ?_⟩⟩
    have n1 := o2 D' z
    rcases hp.sub y with y | y
    · exact absurd n1 ((E.has (e.step x1).r y).1)
    · exact absurd n1 (S.has r1 y).1))
end
end PF

set_option Elab.async false
set_option linter.all false
set_option maxRecDepth 100000
set_option maxHeartbeats 400000
set_option exponentiation.threshold 20000
namespace PF2
open PF PySem PySem.Spec PyProof.Rows L2 SlX
/-! ### the class Order: what the top has -/
structure OTx (K : PySem.W.Frag) (mg : Str → Option Value) (CO : Addr) : Prop where
  gCO : mg "Order" = some (.ref CO)
  cCO : SCls K CO
  yCO : SIsi K CO
  iCOCO : PySem.W.kitOne K (.ref CO) (.ref CO) = some true
  od : OdT K CO
  s_own_is_whole : ∃ p, Slot1 K CO "own_is_whole" p 0
  s_own_lower : ∃ p, Slot1 K CO "own_lower" p 1
  s_own_lower_at : ∃ p, Slot1 K CO "own_lower_at" p 2
  s_own_names : ∃ p, Slot1 K CO "own_names" p 3
  s_own_needless : ∃ p, Slot1 K CO "own_needless" p 4
  s_own_places : ∃ p, Slot1 K CO "own_places" p 5
  s_own_text : ∃ p, Slot1 K CO "own_text" p 6
  s_own_upper : ∃ p, Slot1 K CO "own_upper" p 7
  s_own_upper_at : ∃ p, Slot1 K CO "own_upper_at" p 8
section
variable {P : Program} {w : World} {K : PySem.W.Frag} {mg : Str → Option Value} {base : Heap} {f CO : Addr} {fd : FuncData}
theorem sc_is_name : FnScope ["value", "sign"] ["value"] (defScope (topS 10)) := ⟨rfl, rfl, rfl, by decide +kernel, rfl, by decide +kernel, by decide +kernel⟩
noncomputable def b_is_name (ρ : (Str × (Unit × Unit))) : M (Ct Unit Unit Bool) := (M.thn (M.bind (M.bind (M.bind (M.bind (M.bind (M.ret ρ.1) fun (x3 : Str) => M.bind (M.bind (M.ret ()) fun (x1 : Unit) => M.bind (M.ret ()) fun (x2 : Unit) => M.ret (x1, x2)) fun (x4 : (Unit × Unit)) => M.ret (x3, x4)) fun (r5 : (Str × (Unit × Unit))) => M.ret true) fun (x6 : Bool) => M.ret (!x6)) fun (x18 : Bool) => M.ifb x18 (M.ret true) (M.bind (M.bind (M.ret (1 : Int)) fun (x13 : Int) => M.bind (M.bind (M.bind (M.ret ρ.1) fun (x7 : Str) => M.bind (M.ret ()) fun (x8 : Unit) => M.ret (x7, x8)) fun (r9 : (Str × Unit)) => M.need (Str.length r9.1 ≤ sizeLine) (M.ret (Str.length r9.1 : Int))) fun (x14 : Int) => M.bind (M.ret (decide (x13 ≤ x14))) fun (k15 : Bool) => M.ifb k15 (M.bind (M.ret (8 : Int)) fun (x16 : Int) => M.ret (decide (x14 ≤ x16))) (M.ret false)) fun (x17 : Bool) => M.ret (!x17))) fun (x20 : Bool) => M.ifb x20 (M.bind (M.ret false) fun (x19 : Bool) => M.ret (.rt x19)) (M.ret (.nx ρ))) fun (ρ : (Str × (Unit × Unit))) => (M.bind (M.bind (M.bind (M.bind (M.bind (M.ret ρ.1) fun (x21 : Str) => M.ret (PF.signs x21)) fun (l25 : List Str) => M.need (l25.length ≤ 1000000) (M.lcM l25 fun (a26 : Str) => M.bind ((fun (ρ : (Str × (Str × Unit))) => (M.ret true)) (ρ.1, a26, ρ.2.2)) fun (b27 : Bool) => M.ifb b27 (M.bind ((fun (ρ : (Str × (Str × Unit))) => (M.bind (M.ret ρ.2.1) fun (x22 : Str) => M.bind (M.ret ("abcdefghijklmnopqrstuvwxyz" : Str)) fun (x23 : Str) => M.ret (inStr x22 x23))) (ρ.1, a26, ρ.2.2)) fun (y28 : Bool) => M.ret (some y28)) (M.ret none))) fun (x29 : (List Bool)) => M.bind (M.ret ()) fun (x30 : Unit) => M.ret (x29, x30)) fun (r31 : ((List Bool) × Unit)) => M.ret (r31.1.all id)) fun (x32 : Bool) => M.ret (.rt x32)))
noncomputable def m_is_name (a : (Str × Unit)) : M Bool := M.fin (b_is_name (a.1, ((), ())))
theorem ok_is_name (F : Fun K "is_name" "is_name" (topS 10) f fd) (fr : Free mg) (g_MAX_LETTERS : ∃ tk, mg "MAX_LETTERS" = some (.int 8 tk)) (g_LETTERS : ∃ tk, mg "LETTERS" = some (.str "abcdefghijklmnopqrstuvwxyz" tk)) : FnOk P w K mg base CX0 2 f fd ["value"] (spOf (aCons rStr aNil) rBl m_is_name) := by
  refine F.ok sc_is_name (fun vs H Q E h => spOf_len h) (fun cdv A outer s H vs Q E hr h => ⟨_, (pss_cons (ps_if (PW.pt (pw_or (pt_not (pt_val (pe_callB call_isiU (by rfl) fr.b_isinstance (by decide +kernel) (pa_cons (pv 0) (pa_cons (pe_bltn (v := .ty "str") (by rfl) fr.b_str (by decide +kernel) rfl) pa_nil))))) (pw_or1 (pt_not (pt_chain op_le op_le pe_int (pe_callB call_len_str (by rfl) fr.b_len (by decide +kernel) (pa_cons (pv 0) pa_nil)) (pe_glob (v := .int 8) rfl g_MAX_LETTERS.choose_spec ⟨_, rfl⟩)))))) (pss_one (ps_ret pe_bl)) pss_nil)
  (pss_one (ps_ret (pe_callB (cr_all rfl) (by rfl) fr.b_all (by decide +kernel) (pa_cons (pe_lc (own := [("sign", 1)]) (by rfl) sc_is_name.nd  (pi_str (pv 0)) (blkOk_by (own := [("sign", 1)]) (N := ["value", "sign"]) (sc := defScope (topS 10)) (by decide +kernel)) (fun _ _ _ _ _ => (pg_name (i := 1) sc_is_name.nd rfl (by first | exact Or.inl rfl | exact Or.inr rfl))) (fun _ _ _ _ _ => pts_nil) (fun _ _ _ _ _ => (pe_cmpR op_in_str (pv 1) (pe_glob (v := .str "abcdefghijklmnopqrstuvwxyz") rfl g_LETTERS.choose_spec ⟨_, rfl⟩) (by rfl)))) pa_nil))))), ?_⟩)
  refine fn_body (X := E) (S := (aCons rStr aNil)) (E' := eNil) (R := rBl) (st_par (st_un st_nil)) rfl (s_seq (s_if (t_or (t_not (t_b (e_ca (c_isiT (b := true) tr_str (kit_ty (by decide +kernel))) (a_cons (e_var get0) (a_cons e_tyV a_nil))))) (t_not (t_of (e_chain (o_ib fun _ _ => rfl) (o_ib fun _ _ => rfl) e_int (e_ca c_lenS (a_cons (e_var get0) a_nil)) e_int)))) (s_ret e_bl) s_nil)
  (s_ret (e_ca c_all (a_cons (SN.se (n_lc (i_str (e_var get0)) (gw_name (putS put0)) t_yes (e_op o_inStr (e_var (getS get0)) e_str))) a_nil)))) ?_
  exact h
theorem sc_is_row : FnScope ["value", "name"] ["value"] (defScope (topS 13)) := ⟨rfl, rfl, rfl, by decide +kernel, rfl, by decide +kernel, by decide +kernel⟩
noncomputable def b_is_row (ρ : ((List Str) × (Unit × Unit))) : M (Ct Unit Unit Bool) := (M.thn (M.bind (M.bind (M.bind (M.bind (M.bind (M.ret ρ.1) fun (x35 : (List Str)) => M.bind (M.bind (M.ret ()) fun (x33 : Unit) => M.bind (M.ret ()) fun (x34 : Unit) => M.ret (x33, x34)) fun (x36 : (Unit × Unit)) => M.ret (x35, x36)) fun (r37 : ((List Str) × (Unit × Unit))) => M.ret true) fun (x38 : Bool) => M.ret (!x38)) fun (x63 : Bool) => M.ifb x63 (M.ret true) (M.bind (M.bind (M.bind (M.ret (1 : Int)) fun (x45 : Int) => M.bind (M.bind (M.bind (M.ret ρ.1) fun (x39 : (List Str)) => M.bind (M.ret ()) fun (x40 : Unit) => M.ret (x39, x40)) fun (r41 : ((List Str) × Unit)) => M.ret (r41.1.length : Int)) fun (x46 : Int) => M.bind (M.ret (decide (x45 ≤ x46))) fun (k47 : Bool) => M.ifb k47 (M.bind (M.ret (40 : Int)) fun (x48 : Int) => M.ret (decide (x46 ≤ x48))) (M.ret false)) fun (x49 : Bool) => M.ret (!x49)) fun (x62 : Bool) => M.ifb x62 (M.ret true) (M.bind (M.bind (M.bind (M.bind (M.ret ρ.1) fun (l54 : List Str) => M.need (l54.length ≤ 1000000) (M.lcM l54 fun (a55 : Str) => M.bind ((fun (ρ : ((List Str) × (Str × Unit))) => (M.ret true)) (ρ.1, a55, ρ.2.2)) fun (b56 : Bool) => M.ifb b56 (M.bind ((fun (ρ : ((List Str) × (Str × Unit))) => (M.bind (M.bind (M.ret ρ.2.1) fun (x50 : Str) => M.bind (M.ret ()) fun (x51 : Unit) => M.ret (x50, x51)) fun (r52 : (Str × Unit)) => M.still (m_is_name r52))) (ρ.1, a55, ρ.2.2)) fun (y57 : Bool) => M.ret (some y57)) (M.ret none))) fun (x58 : (List Bool)) => M.bind (M.ret ()) fun (x59 : Unit) => M.ret (x58, x59)) fun (r60 : ((List Bool) × Unit)) => M.ret (r60.1.all id)) fun (x61 : Bool) => M.ret (!x61)))) fun (x65 : Bool) => M.ifb x65 (M.bind (M.ret false) fun (x64 : Bool) => M.ret (.rt x64)) (M.ret (.nx ρ))) fun (ρ : ((List Str) × (Unit × Unit))) => (M.bind (M.bind (M.bind (M.bind (M.bind (M.ret ρ.1) fun (l66 : List Str) => M.need (l66.length ≤ 1000000) (M.bind (M.lcM l66 fun (a67 : Str) => M.bind ((fun (ρ : ((List Str) × (Str × Unit))) => (M.ret true)) (ρ.1, a67, ρ.2.2)) fun (b68 : Bool) => M.ifb b68 (M.bind ((fun (ρ : ((List Str) × (Str × Unit))) => (M.ret ρ.2.1)) (ρ.1, a67, ρ.2.2)) fun (y69 : Str) => M.bind ((fun (ρ : ((List Str) × (Str × Unit))) => (M.ret true)) (ρ.1, a67, ρ.2.2)) fun (z70 : Bool) => M.ret (some (y69, z70))) (M.ret none)) fun (p71 : List (Str × Bool)) => M.ret (dmerge [] p71))) fun (x72 : (List (Str × Bool))) => M.bind (M.ret ()) fun (x73 : Unit) => M.ret (x72, x73)) fun (r74 : ((List (Str × Bool)) × Unit)) => M.ret (r74.1.length : Int)) fun (x78 : Int) => M.bind (M.bind (M.bind (M.ret ρ.1) fun (x75 : (List Str)) => M.bind (M.ret ()) fun (x76 : Unit) => M.ret (x75, x76)) fun (r77 : ((List Str) × Unit)) => M.ret (r77.1.length : Int)) fun (x79 : Int) => M.ret (decide (x78 = x79))) fun (x80 : Bool) => M.ret (.rt x80)))
noncomputable def m_is_row (a : ((List Str) × Unit)) : M Bool := M.fin (b_is_row (a.1, ((), ())))
theorem ok_is_row (F : Fun K "is_row" "is_row" (topS 13) f fd) (fr : Free mg) (g_MAX_NAMES : ∃ tk, mg "MAX_NAMES" = some (.int 40 tk)) (G_is_name : GD P w K mg base "is_name" 2 (spOf (aCons rStr aNil) rBl m_is_name)) : FnOk P w K mg base CX0 3 f fd ["value"] (spOf (aCons (rTup K rStr) aNil) rBl m_is_row) := by
  refine F.ok sc_is_row (fun vs H Q E h => spOf_len h) (fun cdv A outer s H vs Q E hr h => ⟨_, (pss_cons (ps_if (PW.pt (pw_or (pt_not (pt_val (pe_callB call_isiU (by rfl) fr.b_isinstance (by decide +kernel) (pa_cons (pv 0) (pa_cons (pe_bltn (v := .ty "tuple") (by rfl) fr.b_tuple (by decide +kernel) rfl) pa_nil))))) (pw_or (pt_not (pt_chain op_le op_le pe_int (pe_callB call_len (by rfl) fr.b_len (by decide +kernel) (pa_cons (pv 0) pa_nil)) (pe_glob (v := .int 40) rfl g_MAX_NAMES.choose_spec ⟨_, rfl⟩))) (pw_or1 (pt_not (pt_val (pe_callB (cr_all rfl) (by rfl) fr.b_all (by decide +kernel) (pa_cons (pe_lc (own := [("name", 1)]) (by rfl) sc_is_row.nd  (pi_tup (pv 0)) (blkOk_by (own := [("name", 1)]) (N := ["value", "name"]) (sc := defScope (topS 13)) (by decide +kernel)) (fun _ _ _ _ _ => (pg_name (i := 1) sc_is_row.nd rfl (by first | exact Or.inl rfl | exact Or.inr rfl))) (fun _ _ _ _ _ => pts_nil) (fun _ _ _ _ _ => (pe_c1 G_is_name (hr.mono (by decide)) (pa_cons (pv 1) pa_nil)))) pa_nil)))))))) (pss_one (ps_ret pe_bl)) pss_nil)
  (pss_one (ps_ret (pe_cmpR op_eq (pe_callB call_lenDR (by rfl) fr.b_len (by decide +kernel) (pa_cons (pe_lk (pe_dc (own := [("name", 1)]) (by rfl) sc_is_row.nd  (pi_tup (pv 0)) (blkOk_by (own := [("name", 1)]) (N := ["value", "name"]) (sc := defScope (topS 13)) (by decide +kernel)) (fun _ _ _ _ _ => (pg_name (i := 1) sc_is_row.nd rfl (by first | exact Or.inl rfl | exact Or.inr rfl))) (fun _ _ _ _ _ => pts_nil) (fun _ _ _ _ _ => (pv 1)) (fun _ _ _ _ _ => pe_bl))) pa_nil)) (pe_callB call_len (by rfl) fr.b_len (by decide +kernel) (pa_cons (pv 0) pa_nil)) (nomark _))))), ?_⟩)
  refine fn_body (X := E) (S := (aCons (rTup K rStr) aNil)) (E' := eNil) (R := rBl) (st_par (st_un st_nil)) rfl (s_seq (s_if (t_or (t_not (t_b (e_ca (c_isiT (b := true) tr_tup (kit_ty (by decide +kernel))) (a_cons (e_var get0) (a_cons e_tyV a_nil))))) (t_or (t_not (t_of (e_chain (o_ib fun _ _ => rfl) (o_ib fun _ _ => rfl) e_int (e_ca (c_len len_tup) (a_cons (e_var get0) a_nil)) e_int))) (t_not (t_b (e_ca c_all (a_cons (SN.se (n_lc (i_tup (e_var get0)) (gw_name (putS put0)) t_yes (e_call (a_cons (e_var (getS get0)) a_nil)))) a_nil)))))) (s_ret e_bl) s_nil)
  (s_ret (e_op (o_eq sc_int) (e_ca c_lenD (a_cons (e_dc ky_str (i_tup (e_var get0)) (gw_name (putS put0)) t_yes (e_var (getS get0)) e_bl) a_nil)) (e_ca (c_len len_tup) (a_cons (e_var get0) a_nil))))) ?_
  exact h
theorem sc_block_ends : FnScope ["places", "found", "most", "index", "place"] ["places"] (defScope (topS 14)) := ⟨rfl, rfl, rfl, by decide +kernel, rfl, by decide +kernel, by decide +kernel⟩
noncomputable def b_block_ends (ρ : ((List Int) × (Unit × (Unit × (Unit × (Unit × Unit)))))) : M (Ct Unit Unit (List Int)) := (M.thn (M.bind (M.bind (M.ret ()) fun _ => M.ret []) fun (x82 : (List Int)) => M.bind (M.bind (M.ret (1 : Int)) fun (x81 : Int) => M.ret (-x81)) fun (x83 : Int) => M.ret (.nx (ρ.1, x82, x83, ρ.2.2.2.1, ρ.2.2.2.2.1, ρ.2.2.2.2.2))) fun (ρ : ((List Int) × ((List Int) × (Int × (Unit × (Unit × Unit)))))) => (M.thn (M.bind (M.bind (M.ret ρ.1) fun (x84 : (List Int)) => M.ret (enum0 x84)) fun (l98 : List (Int × (Int × Unit))) => M.forM l98 (fun (a85 : (Int × (Int × Unit))) (ρ : ((List Int) × ((List Int) × (Int × (Unit × (Unit × Unit)))))) => (fun (ρ : ((List Int) × ((List Int) × (Int × (Int × (Int × Unit)))))) => (M.thn (M.thn (M.bind (M.bind (M.bind (M.ret ρ.2.2.1) fun (x88 : Int) => M.bind (M.bind (M.ret ρ.2.2.2.2.1) fun (x86 : Int) => M.bind (M.ret ()) fun (x87 : Unit) => M.ret (x86, x87)) fun (x89 : (Int × Unit)) => M.ret (x88, x89)) fun (r90 : (Int × (Int × Unit))) => M.ret (if r90.2.1 > r90.1 then r90.2.1 else r90.1)) fun (x91 : Int) => M.ret (.nx (ρ.1, ρ.2.1, x91, ρ.2.2.2))) fun (ρ : ((List Int) × ((List Int) × (Int × (Int × (Int × Unit)))))) => (M.bind (M.bind (M.ret ρ.2.2.1) fun (x92 : Int) => M.bind (M.ret ρ.2.2.2.1) fun (x93 : Int) => M.ret (decide (x92 = x93))) fun (x97 : Bool) => M.ifb x97 (M.bind (M.bind (M.ret ρ.2.2.2.1) fun (x94 : Int) => M.bind (M.ret (1 : Int)) fun (x95 : Int) => M.ret (x94 + x95)) fun (x96 : Int) => M.need (ρ.2.1.length < sizeLine) (M.ret (.nx (ρ.1, ρ.2.1 ++ [x96], ρ.2.2)))) (M.ret (.nx ρ)))) fun (ρ : ((List Int) × ((List Int) × (Int × (Int × (Int × Unit)))))) => M.ret (.nx (ρ.1, ρ.2.1, ρ.2.2.1, (), (), ρ.2.2.2.2.2)))) (ρ.1, ρ.2.1, ρ.2.2.1, a85.1, a85.2.1, ρ.2.2.2.2.2)) ρ) fun (ρ : ((List Int) × ((List Int) × (Int × (Unit × (Unit × Unit)))))) => (M.bind (M.ret ρ.2.1) fun (x99 : (List Int)) => M.ret (.rt x99))))
noncomputable def m_block_ends (a : ((List Int) × Unit)) : M (List Int) := M.fin (b_block_ends (a.1, ((), ((), ((), ((), ()))))))
theorem ok_block_ends (F : Fun K "block_ends" "block_ends" (topS 14) f fd) (fr : Free mg) : FnOk P w K mg base CX0 2 f fd ["places"] (spOf (aCons (rTup K rInt) aNil) (rLs rInt) m_block_ends) := by
  refine F.ok sc_block_ends (fun vs H Q E h => spOf_len h) (fun cdv A outer s H vs Q E hr h => ⟨_, (pss_cons (ps_par (i := 1) (j := 2) (by rfl) sc_block_ends.nd rfl rfl (by decide) rfl rfl (pa_cons (pe_lst pa_nil) (pa_cons (pe_un un_neg pe_int) pa_nil)) (by rfl))
  (pss_cons (ps_for PassesOwn.never rfl (pi_enT (by rfl) fr.b_enumerate (pa_cons (pv 0) pa_nil)) (pg_tup (by rfl) (pgs_cons (pg_name (i := 3) sc_block_ends.nd rfl (by first | exact Or.inl rfl | exact Or.inr rfl)) (pgs_cons (pg_name (i := 4) sc_block_ends.nd rfl (by first | exact Or.inl rfl | exact Or.inr rfl)) pgs_nil))) (pss_cons (ps_set (i := 2) sc_block_ends.nd rfl (by first | exact Or.inl rfl | exact Or.inr rfl) (pe_callB (call_max2 rfl) (by rfl) fr.b_max (by decide +kernel) (pa_cons (pv 2) (pa_cons (pv 4) pa_nil))))
  (pss_one (ps_if (pt_cmpR op_eq (pv 2) (pv 3) (nomark _)) (pss_one (ps_expr (pe_bm PySem.F.plainAttrs_list PySem.F.slot_list_append PySem.F.type_list_append mt_append (pv 1) (pa_cons (pe_op op_add (pv 3) pe_int) pa_nil)))) pss_nil))))
  (pss_one (ps_ret (pv 1))))), ?_⟩)
  refine fn_body (X := E) (S := (aCons (rTup K rInt) aNil)) (E' := eNil) (R := (rLs rInt)) (st_par (st_un (st_un (st_un (st_un st_nil))))) rfl (s_seq (s_parV (sv_n (n_lst (Ra := rInt) hom_nil a_nil (le_n 0))) (sv_e (e_un (u_ii fun _ => rfl) e_int)) (putS put0) (putS (putS put0)))
  (s_seq (s_for (i_enT (e_var get0)) (g_tup (gs_cons (g_name (putS (putS (putS put0)))) (gs_cons (g_name (putS (putS (putS (putS put0))))) gs_nil)) rfl) (s_post (s_seq (s_asg (e_ca c_max2 (a_cons (e_var (getS (getS get0))) (a_cons (e_var (getS (getS (getS (getS get0))))) a_nil))) (g_name (putS (putS put0))))
  (s_if (t_of (e_op (o_eq sc_int) (e_var (getS (getS get0))) (e_var (getS (getS (getS get0)))))) (s_append (modS mod0) (e_op (o_ii fun _ _ => rfl) (e_var (getS (getS (getS get0)))) e_int)) s_nil)) (wk_fg (fg_keep (fg_keep (fg_keep (fg_un (fg_un fg_nil))))))))
  (s_pre (wk_fz (fzS fz0)) (s_ret (e_var (getS get0)))))) ?_
  exact h
theorem sc_row_in : FnScope ["text", "row"] ["text"] (defScope (topS 15)) := ⟨rfl, rfl, rfl, by decide +kernel, rfl, by decide +kernel, by decide +kernel⟩
noncomputable def b_row_in (ρ : (Str × (Unit × Unit))) : M (Ct Unit Unit (Option (List Str))) := (M.thn (M.bind (M.bind (M.bind (M.bind (M.ret ρ.1) fun (x102 : Str) => M.bind (M.bind (M.ret ()) fun (x100 : Unit) => M.bind (M.ret ()) fun (x101 : Unit) => M.ret (x100, x101)) fun (x103 : (Unit × Unit)) => M.ret (x102, x103)) fun (r104 : (Str × (Unit × Unit))) => M.ret true) fun (x105 : Bool) => M.ret (!x105)) fun (x108 : Bool) => M.ifb x108 (M.bind (M.bind (M.ret ()) fun (x106 : Unit) => M.ret (none : (Option (List Str)))) fun (x107 : (Option (List Str))) => M.ret (.rt x107)) (M.ret (.nx ρ))) fun (ρ : (Str × (Unit × Unit))) => (M.thn (M.bind (M.bind (M.bind (M.bind (M.ret ρ.1) fun (x109 : Str) => M.bind (M.ret (" " : Str)) fun (x110 : Str) => M.need ((Str.length x110 == 0) = false ∧ Str.length x109 + 2 ≤ sizeLine) (M.ret (Txt.split x109 x110))) fun (x111 : (List Str)) => M.bind (M.ret ()) fun (x112 : Unit) => M.ret (x111, x112)) fun (r113 : ((List Str) × Unit)) => M.ret r113.1) fun (x114 : (List Str)) => M.ret (.nx (ρ.1, x114, ρ.2.2))) fun (ρ : (Str × ((List Str) × Unit))) => (M.bind (M.bind (M.bind (M.bind (M.ret ρ.2.1) fun (x115 : (List Str)) => M.bind (M.ret ()) fun (x116 : Unit) => M.ret (x115, x116)) fun (r117 : ((List Str) × Unit)) => M.still (m_is_row r117)) fun (x120 : Bool) => M.ifb x120 (M.bind (M.ret ρ.2.1) fun (x118 : (List Str)) => M.ret (some x118)) (M.bind (M.ret ()) fun (x119 : Unit) => M.ret (none : (Option (List Str))))) fun (x121 : (Option (List Str))) => M.ret (.rt x121))))
noncomputable def m_row_in (a : (Str × Unit)) : M (Option (List Str)) := M.fin (b_row_in (a.1, ((), ())))
theorem ok_row_in (F : Fun K "row_in" "row_in" (topS 15) f fd) (fr : Free mg) (G_is_row : GD P w K mg base "is_row" 3 (spOf (aCons (rTup K rStr) aNil) rBl m_is_row)) : FnOk P w K mg base CX0 4 f fd ["text"] (spOf (aCons rStr aNil) (rOpt (rTup K rStr)) m_row_in) := by
  refine F.ok sc_row_in (fun vs H Q E h => spOf_len h) (fun cdv A outer s H vs Q E hr h => ⟨_, (pss_cons (ps_if (pt_not (pt_val (pe_callB call_isiU (by rfl) fr.b_isinstance (by decide +kernel) (pa_cons (pv 0) (pa_cons (pe_bltn (v := .ty "str") (by rfl) fr.b_str (by decide +kernel) rfl) pa_nil))))) (pss_one (ps_ret pe_non)) pss_nil)
  (pss_cons (ps_set (i := 1) sc_row_in.nd rfl (by first | exact Or.inl rfl | exact Or.inr rfl) (pe_callTy call_tuple_of (by rfl) fr.b_tuple (by decide +kernel) (pa_cons (pe_split (pv 0) pe_str) pa_nil)))
  (pss_one (ps_ret (pe_ifExp (pt_val (pe_c1 G_is_row (hr.mono (by decide)) (pa_cons (pv 1) pa_nil))) (pv 1) pe_non))))), ?_⟩)
  refine fn_body (X := E) (S := (aCons rStr aNil)) (E' := eNil) (R := (rOpt (rTup K rStr))) (st_par (st_un st_nil)) rfl (s_seq (s_if (t_not (t_b (e_ca (c_isiT (b := true) tr_str (kit_ty (by decide +kernel))) (a_cons (e_var get0) (a_cons e_tyV a_nil))))) (s_ret (e_coeX (Rb := (rOpt (rTup K rStr))) coe_none e_non)) s_nil)
  (s_seq (s_asg (e_ca c_tupL (a_cons (SN.se (n_split (e_var get0) e_str)) a_nil)) (g_name (putS put0)))
  (s_ret (e_if (t_b (e_call (a_cons (e_var (getS get0)) a_nil))) (e_coeX (coe_some nn_tup) (e_var (getS get0))) (e_coeX (Rb := (rOpt (rTup K rStr))) coe_none e_non))))) ?_
  exact h
theorem sc_needless_in : FnScope ["upper", "places", "one", "other"] ["upper", "places"] (defScope (topS 16)) := ⟨rfl, rfl, rfl, by decide +kernel, rfl, by decide +kernel, by decide +kernel⟩
noncomputable def b_needless_in (ρ : ((List Str) × ((List (Str × Int)) × (Unit × (Unit × Unit))))) : M (Ct Unit Unit (List (Str × (Str × Unit)))) := (M.bind (M.bind (M.bind (M.bind (M.bind (M.ret ρ.1) fun (x126 : (List Str)) => M.bind (M.bind (M.ret ρ.1) fun (x123 : (List Str)) => M.bind (M.bind (M.ret (1 : Int)) fun (x122 : Int) => M.ret (some x122)) fun (x124 : Option Int) => M.bind (M.ret none) fun (x125 : Option Int) => M.ret (cutL x123 x124 x125)) fun (x127 : (List Str)) => M.ret (zip2 x126 x127)) fun (l142 : List (Str × (Str × Unit))) => M.need (l142.length ≤ 1000000) (M.lcM l142 fun (a143 : (Str × (Str × Unit))) => M.bind ((fun (ρ : ((List Str) × ((List (Str × Int)) × (Str × (Str × Unit))))) => (M.bind (M.bind (M.ret ρ.2.1) fun (x128 : (List (Str × Int))) => M.bind (M.ret ρ.2.2.2.1) fun (x129 : Str) => M.the (dget x128 x129)) fun (x134 : Int) => M.bind (M.bind (M.bind (M.ret ρ.2.1) fun (x130 : (List (Str × Int))) => M.bind (M.ret ρ.2.2.1) fun (x131 : Str) => M.the (dget x130 x131)) fun (x132 : Int) => M.bind (M.ret (1 : Int)) fun (x133 : Int) => M.ret (x132 + x133)) fun (x135 : Int) => M.ret (decide (x134 = x135)))) (ρ.1, ρ.2.1, a143.1, a143.2.1, ρ.2.2.2.2)) fun (b144 : Bool) => M.ifb b144 (M.bind ((fun (ρ : ((List Str) × ((List (Str × Int)) × (Str × (Str × Unit))))) => (M.bind (M.ret ρ.2.2.1) fun (x138 : Str) => M.bind (M.bind (M.ret ρ.2.2.2.1) fun (x136 : Str) => M.bind (M.ret ()) fun (x137 : Unit) => M.ret (x136, x137)) fun (x139 : (Str × Unit)) => M.ret (x138, x139))) (ρ.1, ρ.2.1, a143.1, a143.2.1, ρ.2.2.2.2)) fun (y145 : (Str × (Str × Unit))) => M.ret (some y145)) (M.ret none))) fun (x146 : (List (Str × (Str × Unit)))) => M.bind (M.ret ()) fun (x147 : Unit) => M.ret (x146, x147)) fun (r148 : ((List (Str × (Str × Unit))) × Unit)) => M.ret r148.1) fun (x149 : (List (Str × (Str × Unit)))) => M.ret (.rt x149))
noncomputable def m_needless_in (a : ((List Str) × ((List (Str × Int)) × Unit))) : M (List (Str × (Str × Unit))) := M.fin (b_needless_in (a.1, (a.2.1, ((), ((), ())))))
theorem ok_needless_in (F : Fun K "needless_in" "needless_in" (topS 16) f fd) (fr : Free mg) : FnOk P w K mg base CX0 2 f fd ["upper", "places"] (spOf (aCons (rTup K rStr) (aCons (rDct Sum.inr rInt) aNil)) (rTup K (rTx K (aCons rStr (aCons rStr aNil)))) m_needless_in) := by
  refine F.ok sc_needless_in (fun vs H Q E h => spOf_len h) (fun cdv A outer s H vs Q E hr h => ⟨_, (pss_one (ps_ret (pe_callTy call_tuple_of (by rfl) fr.b_tuple (by decide +kernel) (pa_cons (pe_lc (own := [("one", 2), ("other", 3)]) (g := gTup K 2 (gCons (gName 2) (gCons (gName 3) gNil))) (by rfl) sc_needless_in.nd  (RZ.pi_zipA (by rfl) fr.b_zip (pa_cons (pv 0) (pa_cons (pe_slice sl_tupA (pv 0) (po_some pe_int) po_none) pa_nil))) (blkOk_by (own := [("one", 2), ("other", 3)]) (N := ["upper", "places", "one", "other"]) (sc := defScope (topS 16)) (by decide +kernel)) (fun _ _ _ _ _ => (pg_tup (by rfl) (pgs_cons (pg_name (i := 2) sc_needless_in.nd rfl (by first | exact Or.inl rfl | exact Or.inr rfl)) (pgs_cons (pg_name (i := 3) sc_needless_in.nd rfl (by first | exact Or.inl rfl | exact Or.inr rfl)) pgs_nil)))) (fun _ _ _ _ _ => (pts_one (pt_cmpR op_eq (pe_dget (hu_of hr) (pv 1) (pv 3) (fun _ _ => rfl)) (pe_op op_add (pe_dget (hu_of hr) (pv 1) (pv 2) (fun _ _ => rfl)) pe_int) (nomark _)))) (fun _ _ _ _ _ => (pe_tup (pa_cons (pv 2) (pa_cons (pv 3) pa_nil))))) pa_nil)))), ?_⟩)
  refine fn_body (X := E) (S := (aCons (rTup K rStr) (aCons (rDct Sum.inr rInt) aNil))) (E' := eNil) (R := (rTup K (rTx K (aCons rStr (aCons rStr aNil))))) (st_par (st_par (st_un (st_un st_nil)))) rfl (s_ret (e_ca c_tupL (a_cons (SN.se (n_lc (i_zipT (e_var get0) (e_sl sl_T (e_var get0) (so_some e_int) so_none)) (gw_two (by decide) (putS (putS put0)) (putS (putS (putS put0)))) (t_of (e_op (o_eq sc_int) (e_dget ky_str (e_var (getS get0)) (e_var (getS (getS (getS get0))))) (e_op (o_ii fun _ _ => rfl) (e_dget ky_str (e_var (getS get0)) (e_var (getS (getS get0)))) e_int))) (e_tup (a_cons (e_var (getS (getS get0))) (a_cons (e_var (getS (getS (getS get0)))) a_nil)) (le_n 2)))) a_nil))) ?_
  exact h
theorem sc_Order___init__ : FnScope ["self", "upper", "lower", "index", "name"] ["self", "upper", "lower"] (defScope (inClass (topS 17) 1)) := ⟨rfl, rfl, rfl, by decide +kernel, rfl, by decide +kernel, by decide +kernel⟩
noncomputable def b_Order___init__ (ρ : ((Unit × (Unit × (Unit × (Unit × (Unit × (Unit × (Unit × (Unit × (Unit × Unit))))))))) × ((List Str) × ((List Str) × (Unit × (Unit × Unit)))))) : M (Ct ((Bool × ((List Str) × ((List (Str × Int)) × ((List Str) × ((List (Str × (Str × Unit))) × ((List Int) × (Str × ((List Str) × ((List (Str × Int)) × Unit))))))))) × ((List Str) × ((List Str) × (Unit × (Unit × Unit))))) Unit Unit) := (M.thn (M.bind (M.bind (M.bind (M.bind (M.bind (M.ret ρ.2.1) fun (x150 : (List Str)) => M.bind (M.ret ()) fun (x151 : Unit) => M.ret (x150, x151)) fun (r152 : ((List Str) × Unit)) => M.still (m_is_row r152)) fun (x153 : Bool) => M.ret (!x153)) fun (x167 : Bool) => M.ifb x167 (M.ret true) (M.bind (M.bind (M.bind (M.bind (M.ret ρ.2.2.1) fun (x154 : (List Str)) => M.bind (M.ret ()) fun (x155 : Unit) => M.ret (x154, x155)) fun (r156 : ((List Str) × Unit)) => M.still (m_is_row r156)) fun (x157 : Bool) => M.ret (!x157)) fun (x166 : Bool) => M.ifb x166 (M.ret true) (M.bind (M.bind (M.bind (M.ret ρ.2.1) fun (x158 : (List Str)) => M.bind (M.ret ()) fun (x159 : Unit) => M.ret (x158, x159)) fun (r160 : ((List Str) × Unit)) => M.need (r160.1.length < 64) (M.anyOf fun b => b.Perm r160.1 ∧ sortedS b = true)) fun (x164 : (List Str)) => M.bind (M.bind (M.bind (M.ret ρ.2.2.1) fun (x161 : (List Str)) => M.bind (M.ret ()) fun (x162 : Unit) => M.ret (x161, x162)) fun (r163 : ((List Str) × Unit)) => M.need (r163.1.length < 64) (M.anyOf fun b => b.Perm r163.1 ∧ sortedS b = true)) fun (x165 : (List Str)) => M.need (((fun (xs : (List Str)) => PyData.list (xs.map PyData.str)) x164).canLay0 = true ∧ ((fun (xs : (List Str)) => PyData.list (xs.map PyData.str)) x165).canLay0 = true) (M.ret (!PyData.eqv ((fun (xs : (List Str)) => PyData.list (xs.map PyData.str)) x164) ((fun (xs : (List Str)) => PyData.list (xs.map PyData.str)) x165)))))) fun (x168 : Bool) => M.ifb x168 M.none (M.ret (.nx ρ))) fun (ρ : ((Unit × (Unit × (Unit × (Unit × (Unit × (Unit × (Unit × (Unit × (Unit × Unit))))))))) × ((List Str) × ((List Str) × (Unit × (Unit × Unit)))))) => (M.thn (M.bind (M.ret ρ.2.1) fun (x169 : (List Str)) => M.ret (.nx ((ρ.1.1, ρ.1.2.1, ρ.1.2.2.1, ρ.1.2.2.2.1, ρ.1.2.2.2.2.1, ρ.1.2.2.2.2.2.1, ρ.1.2.2.2.2.2.2.1, x169, ρ.1.2.2.2.2.2.2.2.2.1, ()), ρ.2))) fun (ρ : ((Unit × (Unit × (Unit × (Unit × (Unit × (Unit × (Unit × ((List Str) × (Unit × Unit))))))))) × ((List Str) × ((List Str) × (Unit × (Unit × Unit)))))) => (M.thn (M.bind (M.ret ρ.2.2.1) fun (x170 : (List Str)) => M.ret (.nx ((ρ.1.1, x170, ρ.1.2.2.1, ρ.1.2.2.2.1, ρ.1.2.2.2.2.1, ρ.1.2.2.2.2.2.1, ρ.1.2.2.2.2.2.2.1, ρ.1.2.2.2.2.2.2.2.1, ρ.1.2.2.2.2.2.2.2.2.1, ()), ρ.2))) fun (ρ : ((Unit × ((List Str) × (Unit × (Unit × (Unit × (Unit × (Unit × ((List Str) × (Unit × Unit))))))))) × ((List Str) × ((List Str) × (Unit × (Unit × Unit)))))) => (M.thn (M.bind (M.bind (M.bind (M.bind (M.bind (M.ret ρ.2.1) fun (x171 : (List Str)) => M.bind (M.ret ()) fun (x172 : Unit) => M.ret (x171, x172)) fun (r173 : ((List Str) × Unit)) => M.need (r173.1.length < 64) (M.anyOf fun b => b.Perm r173.1 ∧ sortedS b = true)) fun (x174 : (List Str)) => M.bind (M.ret ()) fun (x175 : Unit) => M.ret (x174, x175)) fun (r176 : ((List Str) × Unit)) => M.ret r176.1) fun (x177 : (List Str)) => M.ret (.nx ((ρ.1.1, ρ.1.2.1, ρ.1.2.2.1, x177, ρ.1.2.2.2.2.1, ρ.1.2.2.2.2.2.1, ρ.1.2.2.2.2.2.2.1, ρ.1.2.2.2.2.2.2.2.1, ρ.1.2.2.2.2.2.2.2.2.1, ()), ρ.2))) fun (ρ : ((Unit × ((List Str) × (Unit × ((List Str) × (Unit × (Unit × (Unit × ((List Str) × (Unit × Unit))))))))) × ((List Str) × ((List Str) × (Unit × (Unit × Unit)))))) => (M.thn (M.bind (M.bind (M.bind (M.ret ρ.2.1) fun (x178 : (List Str)) => M.ret (enum0 x178)) fun (l179 : List (Int × (Str × Unit))) => M.need (l179.length ≤ 1000000) (M.bind (M.lcM l179 fun (a180 : (Int × (Str × Unit))) => M.bind ((fun (ρ : ((Unit × ((List Str) × (Unit × ((List Str) × (Unit × (Unit × (Unit × ((List Str) × (Unit × Unit))))))))) × ((List Str) × ((List Str) × (Int × (Str × Unit)))))) => (M.ret true)) (ρ.1, ρ.2.1, ρ.2.2.1, a180.1, a180.2.1, ρ.2.2.2.2.2)) fun (b181 : Bool) => M.ifb b181 (M.bind ((fun (ρ : ((Unit × ((List Str) × (Unit × ((List Str) × (Unit × (Unit × (Unit × ((List Str) × (Unit × Unit))))))))) × ((List Str) × ((List Str) × (Int × (Str × Unit)))))) => (M.ret ρ.2.2.2.2.1)) (ρ.1, ρ.2.1, ρ.2.2.1, a180.1, a180.2.1, ρ.2.2.2.2.2)) fun (y182 : Str) => M.bind ((fun (ρ : ((Unit × ((List Str) × (Unit × ((List Str) × (Unit × (Unit × (Unit × ((List Str) × (Unit × Unit))))))))) × ((List Str) × ((List Str) × (Int × (Str × Unit)))))) => (M.ret ρ.2.2.2.1)) (ρ.1, ρ.2.1, ρ.2.2.1, a180.1, a180.2.1, ρ.2.2.2.2.2)) fun (z183 : Int) => M.ret (some (y182, z183))) (M.ret none)) fun (p184 : List (Str × Int)) => M.ret (dmerge [] p184))) fun (x185 : (List (Str × Int))) => M.ret (.nx ((ρ.1.1, ρ.1.2.1, ρ.1.2.2.1, ρ.1.2.2.2.1, ρ.1.2.2.2.2.1, ρ.1.2.2.2.2.2.1, ρ.1.2.2.2.2.2.2.1, ρ.1.2.2.2.2.2.2.2.1, x185, ()), ρ.2))) fun (ρ : ((Unit × ((List Str) × (Unit × ((List Str) × (Unit × (Unit × (Unit × ((List Str) × ((List (Str × Int)) × Unit))))))))) × ((List Str) × ((List Str) × (Unit × (Unit × Unit)))))) => (M.thn (M.bind (M.bind (M.bind (M.ret ρ.2.2.1) fun (x186 : (List Str)) => M.ret (enum0 x186)) fun (l187 : List (Int × (Str × Unit))) => M.need (l187.length ≤ 1000000) (M.bind (M.lcM l187 fun (a188 : (Int × (Str × Unit))) => M.bind ((fun (ρ : ((Unit × ((List Str) × (Unit × ((List Str) × (Unit × (Unit × (Unit × ((List Str) × ((List (Str × Int)) × Unit))))))))) × ((List Str) × ((List Str) × (Int × (Str × Unit)))))) => (M.ret true)) (ρ.1, ρ.2.1, ρ.2.2.1, a188.1, a188.2.1, ρ.2.2.2.2.2)) fun (b189 : Bool) => M.ifb b189 (M.bind ((fun (ρ : ((Unit × ((List Str) × (Unit × ((List Str) × (Unit × (Unit × (Unit × ((List Str) × ((List (Str × Int)) × Unit))))))))) × ((List Str) × ((List Str) × (Int × (Str × Unit)))))) => (M.ret ρ.2.2.2.2.1)) (ρ.1, ρ.2.1, ρ.2.2.1, a188.1, a188.2.1, ρ.2.2.2.2.2)) fun (y190 : Str) => M.bind ((fun (ρ : ((Unit × ((List Str) × (Unit × ((List Str) × (Unit × (Unit × (Unit × ((List Str) × ((List (Str × Int)) × Unit))))))))) × ((List Str) × ((List Str) × (Int × (Str × Unit)))))) => (M.ret ρ.2.2.2.1)) (ρ.1, ρ.2.1, ρ.2.2.1, a188.1, a188.2.1, ρ.2.2.2.2.2)) fun (z191 : Int) => M.ret (some (y190, z191))) (M.ret none)) fun (p192 : List (Str × Int)) => M.ret (dmerge [] p192))) fun (x193 : (List (Str × Int))) => M.ret (.nx ((ρ.1.1, ρ.1.2.1, x193, ρ.1.2.2.2.1, ρ.1.2.2.2.2.1, ρ.1.2.2.2.2.2.1, ρ.1.2.2.2.2.2.2.1, ρ.1.2.2.2.2.2.2.2.1, ρ.1.2.2.2.2.2.2.2.2.1, ()), ρ.2))) fun (ρ : ((Unit × ((List Str) × ((List (Str × Int)) × ((List Str) × (Unit × (Unit × (Unit × ((List Str) × ((List (Str × Int)) × Unit))))))))) × ((List Str) × ((List Str) × (Unit × (Unit × Unit)))))) => (M.thn (M.bind (M.bind (M.bind (M.bind (M.ret ρ.2.1) fun (l197 : List Str) => M.need (l197.length ≤ 1000000) (M.lcM l197 fun (a198 : Str) => M.bind ((fun (ρ : ((Unit × ((List Str) × ((List (Str × Int)) × ((List Str) × (Unit × (Unit × (Unit × ((List Str) × ((List (Str × Int)) × Unit))))))))) × ((List Str) × ((List Str) × (Unit × (Str × Unit)))))) => (M.ret true)) (ρ.1, ρ.2.1, ρ.2.2.1, ρ.2.2.2.1, a198, ρ.2.2.2.2.2)) fun (b199 : Bool) => M.ifb b199 (M.bind ((fun (ρ : ((Unit × ((List Str) × ((List (Str × Int)) × ((List Str) × (Unit × (Unit × (Unit × ((List Str) × ((List (Str × Int)) × Unit))))))))) × ((List Str) × ((List Str) × (Unit × (Str × Unit)))))) => (M.bind (M.ret ρ.1.2.2.1) fun (x194 : (List (Str × Int))) => M.bind (M.ret ρ.2.2.2.2.1) fun (x195 : Str) => M.the (dget x194 x195))) (ρ.1, ρ.2.1, ρ.2.2.1, ρ.2.2.2.1, a198, ρ.2.2.2.2.2)) fun (y200 : Int) => M.ret (some y200)) (M.ret none))) fun (x201 : (List Int)) => M.bind (M.ret ()) fun (x202 : Unit) => M.ret (x201, x202)) fun (r203 : ((List Int) × Unit)) => M.ret r203.1) fun (x204 : (List Int)) => M.ret (.nx ((ρ.1.1, ρ.1.2.1, ρ.1.2.2.1, ρ.1.2.2.2.1, ρ.1.2.2.2.2.1, x204, ρ.1.2.2.2.2.2.2.1, ρ.1.2.2.2.2.2.2.2.1, ρ.1.2.2.2.2.2.2.2.2.1, ()), ρ.2))) fun (ρ : ((Unit × ((List Str) × ((List (Str × Int)) × ((List Str) × (Unit × ((List Int) × (Unit × ((List Str) × ((List (Str × Int)) × Unit))))))))) × ((List Str) × ((List Str) × (Unit × (Unit × Unit)))))) => (M.thn (M.bind (M.bind (M.bind (M.bind (M.bind (M.ret ρ.2.1) fun (x205 : (List Str)) => M.bind (M.ret ()) fun (x206 : Unit) => M.ret (x205, x206)) fun (r207 : ((List Str) × Unit)) => M.ret (r207.1.length : Int)) fun (x208 : Int) => M.bind (M.ret (1 : Int)) fun (x209 : Int) => M.ret (decide (x209 < x208))) fun (x218 : Bool) => M.ifb x218 (M.bind (M.bind (M.bind (M.bind (M.bind (M.ret ρ.1.2.2.2.2.2.1) fun (x210 : (List Int)) => M.bind (M.ret ()) fun (x211 : Unit) => M.ret (x210, x211)) fun (r212 : ((List Int) × Unit)) => M.still (m_block_ends r212)) fun (x213 : (List Int)) => M.bind (M.ret ()) fun (x214 : Unit) => M.ret (x213, x214)) fun (r215 : ((List Int) × Unit)) => M.ret (r215.1.length : Int)) fun (x216 : Int) => M.bind (M.ret (1 : Int)) fun (x217 : Int) => M.ret (decide (x216 = x217))) (M.ret false)) fun (x219 : Bool) => M.ret (.nx ((x219, ρ.1.2.1, ρ.1.2.2.1, ρ.1.2.2.2.1, ρ.1.2.2.2.2.1, ρ.1.2.2.2.2.2.1, ρ.1.2.2.2.2.2.2.1, ρ.1.2.2.2.2.2.2.2.1, ρ.1.2.2.2.2.2.2.2.2.1, ()), ρ.2))) fun (ρ : ((Bool × ((List Str) × ((List (Str × Int)) × ((List Str) × (Unit × ((List Int) × (Unit × ((List Str) × ((List (Str × Int)) × Unit))))))))) × ((List Str) × ((List Str) × (Unit × (Unit × Unit)))))) => (M.thn (M.bind (M.bind (M.bind (M.ret ρ.2.1) fun (x222 : (List Str)) => M.bind (M.bind (M.ret ρ.1.2.2.1) fun (x220 : (List (Str × Int))) => M.bind (M.ret ()) fun (x221 : Unit) => M.ret (x220, x221)) fun (x223 : ((List (Str × Int)) × Unit)) => M.ret (x222, x223)) fun (r224 : ((List Str) × ((List (Str × Int)) × Unit))) => M.still (m_needless_in r224)) fun (x225 : (List (Str × (Str × Unit)))) => M.ret (.nx ((ρ.1.1, ρ.1.2.1, ρ.1.2.2.1, ρ.1.2.2.2.1, x225, ρ.1.2.2.2.2.2.1, ρ.1.2.2.2.2.2.2.1, ρ.1.2.2.2.2.2.2.2.1, ρ.1.2.2.2.2.2.2.2.2.1, ()), ρ.2))) fun (ρ : ((Bool × ((List Str) × ((List (Str × Int)) × ((List Str) × ((List (Str × (Str × Unit))) × ((List Int) × (Unit × ((List Str) × ((List (Str × Int)) × Unit))))))))) × ((List Str) × ((List Str) × (Unit × (Unit × Unit)))))) => (M.bind (M.bind (M.bind (M.bind (M.ret (" " : Str)) fun (x226 : Str) => M.bind (M.ret ρ.2.1) fun (x227 : (List Str)) => M.need ((x227.map (·.length)).sum + x227.length * Str.length x226 ≤ 16777216) (M.ret (Txt.join x226 x227))) fun (x228 : Str) => M.bind (M.ret (" / " : Str)) fun (x229 : Str) => M.need (Str.length x228 + Str.length x229 ≤ sizeLine) (M.ret (x228 ++ x229))) fun (x232 : Str) => M.bind (M.bind (M.ret (" " : Str)) fun (x230 : Str) => M.bind (M.ret ρ.2.2.1) fun (x231 : (List Str)) => M.need ((x231.map (·.length)).sum + x231.length * Str.length x230 ≤ 16777216) (M.ret (Txt.join x230 x231))) fun (x233 : Str) => M.need (Str.length x232 + Str.length x233 ≤ sizeLine) (M.ret (x232 ++ x233))) fun (x234 : Str) => M.ret (.nx ((ρ.1.1, ρ.1.2.1, ρ.1.2.2.1, ρ.1.2.2.2.1, ρ.1.2.2.2.2.1, ρ.1.2.2.2.2.2.1, x234, ρ.1.2.2.2.2.2.2.2.1, ρ.1.2.2.2.2.2.2.2.2.1, ()), ρ.2))))))))))))
noncomputable def m_Order___init__ (a : ((List Str) × ((List Str) × Unit))) : M (Bool × ((List Str) × ((List (Str × Int)) × ((List Str) × ((List (Str × (Str × Unit))) × ((List Int) × (Str × ((List Str) × ((List (Str × Int)) × Unit))))))))) := M.finI (b_Order___init__ (((), (), (), (), (), (), (), (), (), ()), (a.1, (a.2.1, ((), ((), ()))))))
theorem ok_Order___init__ (F : Fun K "__init__" "Order.__init__" (inClass (topS 17) 1) f fd) (G_is_row : GD P w K mg base "is_row" 3 (spOf (aCons (rTup K rStr) aNil) rBl m_is_row)) (fr : Free mg) (T : OTx K mg CO) (G_block_ends : GD P w K mg base "block_ends" 2 (spOf (aCons (rTup K rInt) aNil) (rLs rInt) m_block_ends)) (G_needless_in : GD P w K mg base "needless_in" 2 (spOf (aCons (rTup K rStr) (aCons (rDct Sum.inr rInt) aNil)) (rTup K (rTx K (aCons rStr (aCons rStr aNil)))) m_needless_in)) : FnOk P w K mg base CX0 4 f fd ["self", "upper", "lower"] (spOfI CO (aCons (rTup K rStr) (aCons (rTup K rStr) aNil)) (rObj CO (vVal rBl (vVal (rTup K rStr) (vVal (rDct Sum.inr rInt) (vVal (rTup K rStr) (vVal (rTup K (rTx K (aCons rStr (aCons rStr aNil)))) (vVal (rTup K rInt) (vVal rStr (vVal (rTup K rStr) (vVal (rDct Sum.inr rInt) vNil)))))))))) m_Order___init__) := by
  refine F.ok sc_Order___init__ (fun vs H Q E h => spOfI_len h) (fun cdv A outer s H vs Q E hr h => ⟨_, (pss_cons (ps_if (PW.pt (pw_or (pt_not (pt_val (pe_c1 G_is_row (hr.mono (by decide)) (pa_cons (pv 1) pa_nil)))) (pw_or (pt_not (pt_val (pe_c1 G_is_row (hr.mono (by decide)) (pa_cons (pv 2) pa_nil)))) (pw_or1 (pt_cmpR (op_neD (hu64 hr) : OpR _ _ (rNeD K)) (pe_callB cr_sortedST (by rfl) fr.b_sorted (by decide +kernel) (pa_cons (pv 1) pa_nil)) (pe_callB cr_sortedST (by rfl) fr.b_sorted (by decide +kernel) (pa_cons (pv 2) pa_nil)) (nomark _)))))) (pss_one ps_never) pss_nil)
  (pss_cons (ps_slC T.cCO T.s_own_upper (pv 0) (pv 1))
  (pss_cons (ps_slC T.cCO T.s_own_lower (pv 0) (pv 2))
  (pss_cons (ps_slC T.cCO T.s_own_names (pv 0) (pe_callTy call_tuple_of (by rfl) fr.b_tuple (by decide +kernel) (pa_cons (pe_callB cr_sortedST (by rfl) fr.b_sorted (by decide +kernel) (pa_cons (pv 1) pa_nil)) pa_nil)))
  (pss_cons (ps_slC T.cCO T.s_own_upper_at (pv 0) (pe_lk (pe_dc (own := [("index", 3), ("name", 4)]) (g := gTup K 2 (gCons (gName 3) (gCons (gName 4) gNil))) (by rfl) sc_Order___init__.nd  (pi_enT (by rfl) fr.b_enumerate (pa_cons (pv 1) pa_nil)) (blkOk_by (own := [("index", 3), ("name", 4)]) (N := ["self", "upper", "lower", "index", "name"]) (sc := defScope (inClass (topS 17) 1)) (by decide +kernel)) (fun _ _ _ _ _ => (pg_tup (by rfl) (pgs_cons (pg_name (i := 3) sc_Order___init__.nd rfl (by first | exact Or.inl rfl | exact Or.inr rfl)) (pgs_cons (pg_name (i := 4) sc_Order___init__.nd rfl (by first | exact Or.inl rfl | exact Or.inr rfl)) pgs_nil)))) (fun _ _ _ _ _ => pts_nil) (fun _ _ _ _ _ => (pv 4)) (fun _ _ _ _ _ => (pv 3)))))
  (pss_cons (ps_slC T.cCO T.s_own_lower_at (pv 0) (pe_lk (pe_dc (own := [("index", 3), ("name", 4)]) (g := gTup K 2 (gCons (gName 3) (gCons (gName 4) gNil))) (by rfl) sc_Order___init__.nd  (pi_enT (by rfl) fr.b_enumerate (pa_cons (pv 2) pa_nil)) (blkOk_by (own := [("index", 3), ("name", 4)]) (N := ["self", "upper", "lower", "index", "name"]) (sc := defScope (inClass (topS 17) 1)) (by decide +kernel)) (fun _ _ _ _ _ => (pg_tup (by rfl) (pgs_cons (pg_name (i := 3) sc_Order___init__.nd rfl (by first | exact Or.inl rfl | exact Or.inr rfl)) (pgs_cons (pg_name (i := 4) sc_Order___init__.nd rfl (by first | exact Or.inl rfl | exact Or.inr rfl)) pgs_nil)))) (fun _ _ _ _ _ => pts_nil) (fun _ _ _ _ _ => (pv 4)) (fun _ _ _ _ _ => (pv 3)))))
  (pss_cons (ps_slC T.cCO T.s_own_places (pv 0) (pe_callTy call_tuple_of (by rfl) fr.b_tuple (by decide +kernel) (pa_cons (pe_lc (own := [("name", 4)]) (by rfl) sc_Order___init__.nd  (pi_tup (pv 1)) (blkOk_by (own := [("name", 4)]) (N := ["self", "upper", "lower", "index", "name"]) (sc := defScope (inClass (topS 17) 1)) (by decide +kernel)) (fun _ _ _ _ _ => (pg_name (i := 4) sc_Order___init__.nd rfl (by first | exact Or.inl rfl | exact Or.inr rfl))) (fun _ _ _ _ _ => pts_nil) (fun _ _ _ _ _ => (pe_dget (hu_of hr) (pe_slC T.cCO T.s_own_lower_at (pv 0)) (pv 4) (fun _ _ => rfl)))) pa_nil)))
  (pss_cons (ps_slC T.cCO T.s_own_is_whole (pv 0) (pe_and (pe_cmpR op_gt (pe_callB call_len (by rfl) fr.b_len (by decide +kernel) (pa_cons (pv 1) pa_nil)) pe_int (nomark _)) (pe_one (pe_cmpR op_eq (pe_callB call_len (by rfl) fr.b_len (by decide +kernel) (pa_cons (pe_c1 G_block_ends (hr.mono (by decide)) (pa_cons (pe_slC T.cCO T.s_own_places (pv 0)) pa_nil)) pa_nil)) pe_int (nomark _)))))
  (pss_cons (ps_slC T.cCO T.s_own_needless (pv 0) (pe_c1 G_needless_in (hr.mono (by decide)) (pa_cons (pv 1) (pa_cons (pe_slC T.cCO T.s_own_lower_at (pv 0)) pa_nil))))
  (pss_one (ps_slC T.cCO T.s_own_text (pv 0) (pe_op op_add_str (pe_op op_add_str (pe_join pe_str (pv 1)) pe_str) (pe_join pe_str (pv 2)))))))))))))), ?_⟩)
  refine fn_bodyI (X := E) (S := (aCons (rTup K rStr) (aCons (rTup K rStr) aNil))) (E' := (eCons (sVal (rTup K rStr)) (eCons (sVal (rTup K rStr)) (eCons sUn (eCons sUn eNil))))) (U0 := (vUn (vUn (vUn (vUn (vUn (vUn (vUn (vUn (vUn vNil)))))))))) (U := (vVal rBl (vVal (rTup K rStr) (vVal (rDct Sum.inr rInt) (vVal (rTup K rStr) (vVal (rTup K (rTx K (aCons rStr (aCons rStr aNil)))) (vVal (rTup K rInt) (vVal rStr (vVal (rTup K rStr) (vVal (rDct Sum.inr rInt) vNil)))))))))) (z := ((), (), (), (), (), (), (), (), (), ())) ⟨trivial, (st_par (st_par (st_un (st_un st_nil))))⟩ rfl (fun A' => (s_seq (s_if (t_or (t_not (t_b (e_call (a_cons (e_var (getS get0)) a_nil)))) (t_or (t_not (t_b (e_call (a_cons (e_var (getS (getS get0))) a_nil)))) (t_of (e_op (o_neD (da := (fun (xs : (List Str)) => PyData.list (xs.map PyData.str))) (db := (fun (xs : (List Str)) => PyData.list (xs.map PyData.str))) (dp_ls dp_str) (dp_ls dp_str)) (SN.se (n_ca c_sortST (a_cons (e_var (getS get0)) a_nil))) (SN.se (n_ca c_sortST (a_cons (e_var (getS (getS get0))) a_nil))))))) s_never s_nil)
  (s_seq (s_self (pl_val (pl_val (pl_un (pl_un pl_nil)))) (vputU (vputU (vputU (vputU (vputU (vputU (vputU vput0U))))))) (e_var (getS get0)))
  (s_seq (s_self (pl_val (pl_val (pl_un (pl_un pl_nil)))) (vputU vput0U) (e_var (getS (getS get0))))
  (s_seq (s_self (pl_val (pl_val (pl_un (pl_un pl_nil)))) (vputU (vputV (vputU vput0U))) (e_ca c_tupL (a_cons (SN.se (n_ca c_sortST (a_cons (e_var (getS get0)) a_nil))) a_nil)))
  (s_seq (s_self (pl_val (pl_val (pl_un (pl_un pl_nil)))) (vputU (vputV (vputU (vputV (vputU (vputU (vputU (vputV vput0U)))))))) (e_dc ky_str (i_enT (e_var (getS get0))) (gw_two (by decide) (putS (putS (putS put0))) (putS (putS (putS (putS put0))))) t_yes (e_var (getS (getS (getS (getS get0))))) (e_var (getS (getS (getS get0))))))
  (s_seq (s_self (pl_val (pl_val (pl_un (pl_un pl_nil)))) (vputU (vputV vput0U)) (e_dc ky_str (i_enT (e_var (getS (getS get0)))) (gw_two (by decide) (putS (putS (putS put0))) (putS (putS (putS (putS put0))))) t_yes (e_var (getS (getS (getS (getS get0))))) (e_var (getS (getS (getS get0))))))
  (s_seq (s_self (pl_val (pl_val (pl_un (pl_un pl_nil)))) (vputU (vputV (vputV (vputV (vputU vput0U))))) (e_ca c_tupL (a_cons (SN.se (n_lc (i_tup (e_var (getS get0))) (gw_name (putS (putS (putS (putS put0))))) t_yes (e_dget ky_str (e_selfget (vgetU (vgetS vget0))) (e_var (getS (getS (getS (getS get0)))))))) a_nil)))
  (s_seq (s_self (pl_val (pl_val (pl_un (pl_un pl_nil)))) vput0U (e_and (e_op (o_ib fun _ _ => rfl) (e_ca (c_len len_tup) (a_cons (e_var (getS get0)) a_nil)) e_int) (e_op (o_eq sc_int) (e_ca (c_len len_ls) (a_cons (e_call (a_cons (e_selfget (vgetU (vgetS (vgetS (vgetS (vgetU vget0)))))) a_nil)) a_nil)) e_int)))
  (s_seq (s_self (pl_val (pl_val (pl_un (pl_un pl_nil)))) (vputV (vputV (vputV (vputV vput0U)))) (e_call (a_cons (e_var (getS get0)) (a_cons (e_selfget (vgetS (vgetS vget0))) a_nil))))
  (s_selfE (pl_val (pl_val (pl_un (pl_un pl_nil)))) (vputV (vputV (vputV (vputV (vputV (vputV vput0U)))))) (e_op o_addS (e_op o_addS (e_join jn_tup e_str (e_var (getS get0))) e_str) (e_join jn_tup e_str (e_var (getS (getS get0)))))))))))))))) ?_
  exact h
end
end PF2

set_option Elab.async false
set_option linter.all false
set_option maxRecDepth 100000
set_option maxHeartbeats 400000
set_option exponentiation.threshold 20000
namespace PF2
open PF PySem PySem.Spec PyProof.Rows L2 SlX TL
/-! ### names, rows -/
def LET : Str := "abcdefghijklmnopqrstuvwxyz"
structure okName (x : Str) : Prop where
  n1 : 1 ≤ x.length
  n8 : x.length ≤ 8
  sg : ∀ s ∈ PF.signs x, inStr s LET = true
  ok : PyData.strOk x = true
structure okRow (l : List Str) : Prop where
  n1 : 1 ≤ l.length
  n40 : l.length ≤ 40
  nm : ∀ x ∈ l, okName x
  nd : l.Nodup
theorem signs_len (x : Str) : (PF.signs x).length = x.length := by
  unfold PF.signs
  rw [List.length_map, Array.length_toList]; rfl
theorem sizeL {n : Nat} (h : n ≤ 1000000) : n ≤ sizeLine := by rw [sizeLine_eq]; omega
theorem sizeLt {n : Nat} (h : n ≤ 1000000) : n < sizeLine := by rw [sizeLine_eq]; omega
theorem all_map_true {α : Type} {l : List α} {f : α → Bool} (h : ∀ a ∈ l, f a = true) : (l.map f).all id = true := by
  rw [List.all_map, List.all_eq_true]
  exact h
section
variable {c : Nat} {X : Er → Prop}
theorem w_is_name {x : Str} {Q : Bool → Nat → Prop} (h : okName x) (q : Q true c) : (m_is_name (x, ())).wp c Q X := by
  simp only [m_is_name, b_is_name, M.none_wp, M.bind_wp, M.ret_wp, M.need_wp, M.the_wp, M.ifb_wp, M.anyOf_wp, M.still_wp, M.roll_wp, M.pick_wp, M.thn_wp, M.thn_nx, M.thn_rt, M.thn_bk, M.thn_ct, M.fin_wp, M.fin_rt, M.finN_wp, M.finN_rt, M.finN_nx, M.FK_nx, M.FK_ct, M.FK_bk, M.FK_rt, decide_eq_true_eq, if_true, if_false, Bool.false_eq_true, Bool.not_eq_true', decide_eq_false_iff_not, Bool.not_true, Bool.not_false, ite_not]
  have h1 := h.n1
  have h8 := h.n8
  simp only [show (1 : Int) ≤ (x.length : Int) by omega, show (x.length : Int) ≤ 8 by omega, not_true, if_false, if_true]
  refine ⟨sizeL (by omega), by rw [signs_len]; omega, M.lcM_map (g := fun s => inStr s LET) (fun a ha Q q => q) ?_⟩
  rw [all_map_true h.sg]
  exact q
theorem w_is_row {l : List Str} {Q : Bool → Nat → Prop} (h : okRow l) (q : Q true c) : (m_is_row (l, ())).wp c Q X := by
  simp only [m_is_row, b_is_row, M.none_wp, M.bind_wp, M.ret_wp, M.need_wp, M.the_wp, M.ifb_wp, M.anyOf_wp, M.still_wp, M.roll_wp, M.pick_wp, M.thn_wp, M.thn_nx, M.thn_rt, M.thn_bk, M.thn_ct, M.fin_wp, M.fin_rt, M.finN_wp, M.finN_rt, M.finN_nx, M.FK_nx, M.FK_ct, M.FK_bk, M.FK_rt, decide_eq_true_eq, if_true, if_false, Bool.false_eq_true, Bool.not_eq_true', decide_eq_false_iff_not, Bool.not_true, Bool.not_false, ite_not]
  have h1 := h.n1
  have h40 := h.n40
  simp only [show (1 : Int) ≤ (l.length : Int) by omega, show (l.length : Int) ≤ 40 by omega, Bool.true_eq_false, if_false, if_true]
  refine ⟨by omega, M.lcM_map (g := fun _ => true) (fun a ha Q q => w_is_name (h.nm a ha) q) ?_⟩
  rw [all_map_true fun _ _ => rfl]
  refine ⟨by omega, M.lcM_map (g := fun a => (a, true)) (fun a ha Q q => q) ?_⟩
  have e : dmerge [] (l.map fun a => (a, true)) = l.map fun a => (a, true) := by
    rw [dmerge_nodup]
    · simp
    · rw [List.nil_append, List.map_map]
      show (l.map fun a => a).Nodup
      rw [List.map_id']; exact h.nd
  rw [e, List.length_map]
  simpa using q
/-! ### blocks -/
def bgo : List Int → Int → Int → List Int
  | [], _, _ => []
  | p :: ps, i, m => if (if p > m then p else m) = i then (i + 1) :: bgo ps (i + 1) (if p > m then p else m) else bgo ps (i + 1) (if p > m then p else m)
def bEnds (ps : List Int) : List Int := bgo ps 0 (-1)
theorem w_block_ends {ps : List Int} {Q : List Int → Nat → Prop} (h : ps.length ≤ 1000) (q : Q (bEnds ps) c) : (m_block_ends (ps, ())).wp c Q X := by
  simp only [m_block_ends, b_block_ends, M.none_wp, M.bind_wp, M.ret_wp, M.need_wp, M.the_wp, M.ifb_wp, M.anyOf_wp, M.still_wp, M.roll_wp, M.pick_wp, M.thn_wp, M.thn_nx, M.thn_rt, M.thn_bk, M.thn_ct, M.fin_wp, M.fin_rt, M.finN_wp, M.finN_rt, M.finN_nx, M.FK_nx, M.FK_ct, M.FK_bk, M.FK_rt, decide_eq_true_eq, if_true, if_false, Bool.false_eq_true, Bool.not_eq_true', decide_eq_false_iff_not, Bool.not_true, Bool.not_false, ite_not]
  refine M.forM_inv (fun i ρ d => d = c ∧ ρ.2.1.length ≤ i ∧ ρ.2.1 ++ bgo (ps.drop i) i ρ.2.2.1 = bEnds ps) ⟨rfl, Nat.zero_le _, rfl⟩ ?_ ?_
  · rintro i a ρ d hi ⟨rfl, hl, he⟩
    obtain ⟨e1, e2⟩ := enum0_get hi
    have hlt := (List.getElem?_eq_some_iff.mp e2).1
    have hd : ps.drop i = a.2.1 :: ps.drop (i + 1) := by
      rw [List.drop_eq_getElem_cons hlt]
      rw [(List.getElem?_eq_some_iff.mp e2).2]
    rw [hd, bgo] at he
    simp only [M.none_wp, M.bind_wp, M.ret_wp, M.need_wp, M.the_wp, M.ifb_wp, M.anyOf_wp, M.still_wp, M.roll_wp, M.pick_wp, M.thn_wp, M.thn_nx, M.thn_rt, M.thn_bk, M.thn_ct, M.fin_wp, M.fin_rt, M.finN_wp, M.finN_rt, M.finN_nx, M.FK_nx, M.FK_ct, M.FK_bk, M.FK_rt, decide_eq_true_eq, if_true, if_false, Bool.false_eq_true, Bool.not_eq_true', decide_eq_false_iff_not, Bool.not_true, Bool.not_false, ite_not, e1]
    rw [show ((i + 1 : Nat) : Int) = (i : Int) + 1 by omega]
    by_cases z : (if a.2.1 > ρ.2.2.1 then a.2.1 else ρ.2.2.1) = (i : Int)
    · rw [if_pos z] at he
      simp only [z, if_true]
      refine ⟨sizeLt (by omega), trivial, by rw [List.length_append]; exact Nat.succ_le_succ hl, ?_⟩
      rw [List.append_assoc, List.singleton_append]
      rw [z] at he
      exact he
    · rw [if_neg z] at he
      simp only [z, if_false]
      exact ⟨trivial, Nat.le_succ_of_le hl, he⟩
  · rintro ρ d ⟨rfl, hl, he⟩
    rw [enum0_len, List.drop_length] at he
    simp only [M.none_wp, M.bind_wp, M.ret_wp, M.need_wp, M.the_wp, M.ifb_wp, M.anyOf_wp, M.still_wp, M.roll_wp, M.pick_wp, M.thn_wp, M.thn_nx, M.thn_rt, M.thn_bk, M.thn_ct, M.fin_wp, M.fin_rt, M.finN_wp, M.finN_rt, M.finN_nx, M.FK_nx, M.FK_ct, M.FK_bk, M.FK_rt, decide_eq_true_eq, if_true, if_false, Bool.false_eq_true, Bool.not_eq_true', decide_eq_false_iff_not, Bool.not_true, Bool.not_false, ite_not]
    have : ρ.2.1 = bEnds ps := by rw [← he]; simp [bgo]
    rw [this]; exact q
/-! ### places -/
def idxF {α : Type} : List α → Int → List (α × Int)
  | [], _ => []
  | x :: l, n => (x, n) :: idxF l (n + 1)
/-- each with its place -/
def idxD {α : Type} (l : List α) : List (α × Int) := idxF l 0
theorem idxF_len {α : Type} : ∀ (l : List α) (n : Int), (idxF l n).length = l.length
  | [], _ => rfl
  | _ :: l, n => by rw [idxF, List.length_cons, List.length_cons, idxF_len l]
theorem idxF_get {α : Type} : ∀ (l : List α) (n : Int) (i : Nat), (idxF l n)[i]? = (l[i]?).map fun x => (x, n + i)
  | [], _, i => by simp [idxF]
  | x :: l, n, 0 => by simp [idxF]
  | x :: l, n, i + 1 => by
    rw [idxF, List.getElem?_cons_succ, List.getElem?_cons_succ, idxF_get l]
    cases l[i]? with
    | none => rfl
    | some y => simp only [Option.map_some]; congr 2; omega
theorem enum_idx {α : Type} (l : List α) : (enum0 l).map (fun p => (p.2.1, p.1)) = idxD l := by
  refine List.ext_getElem? fun i => ?_
  rw [idxD, idxF_get, List.getElem?_map]
  cases e : (enum0 l)[i]? with
  | none =>
    have h := List.getElem?_eq_none_iff.mp e
    rw [enum0_len] at h
    rw [List.getElem?_eq_none_iff.mpr h]; rfl
  | some a =>
    obtain ⟨e1, e2⟩ := enum0_get e
    rw [e2, Option.map_some, Option.map_some, e1, Int.zero_add]
theorem idxF_fst {α : Type} : ∀ (l : List α) (n : Int), (idxF l n).map (·.1) = l
  | [], _ => rfl
  | x :: l, n => by rw [idxF, List.map_cons, idxF_fst l]
theorem dget_idxF {α : Type} [DecidableEq α] : ∀ (l : List α) (n : Int) (x : α), x ∈ l → dget (idxF l n) x = some (n + (l.idxOf x : Int))
  | [], _, x, h => by cases h
  | y :: l, n, x, h => by
    rw [idxF]
    by_cases e : y = x
    · subst e
      simp [dget, List.idxOf_cons_self]
    · have hx : x ∈ l := by
        rcases List.mem_cons.mp h with z | z
        · exact absurd z.symm e
        · exact z
      have := dget_idxF l (n + 1) x hx
      rw [show (y :: l).idxOf x = l.idxOf x + 1 by rw [List.idxOf_cons, show (y == x) = false from beq_eq_false_iff_ne.mpr e]; rfl]
      unfold dget at this ⊢
      rw [List.find?_cons_of_neg (by simpa using e), this]
      congr 1
      omega
theorem dget_idx {α : Type} [DecidableEq α] {l : List α} {x : α} (h : x ∈ l) : dget (idxD l) x = some (l.idxOf x : Int) := by
  rw [idxD, dget_idxF l 0 x h, Int.zero_add]
theorem dget_idx_none {α : Type} [DecidableEq α] {l : List α} {x : α} (h : x ∉ l) : dget (idxD l) x = none := by
  unfold dget
  rw [List.find?_eq_none.mpr, Option.map_none]
  intro p hp
  have : p.1 ∈ (idxF l 0).map (·.1) := List.mem_map_of_mem hp
  rw [idxF_fst] at this
  simp only [decide_eq_true_eq]
  intro e
  exact h (e ▸ this)
theorem w_idx {l : List Str} (nd : l.Nodup) : dmerge [] ((enum0 l).map fun a => (a.2.1, a.1)) = idxD l := by
  rw [dmerge_nodup]
  · rw [List.nil_append]; exact enum_idx l
  · rw [List.nil_append]
    rw [show ((enum0 l).map fun a => (a.2.1, a.1)) = idxD l from enum_idx l]
    show ((idxF l 0).map (·.1)).Nodup
    rw [idxF_fst]; exact nd
/-! ### orders -/
structure Od where
  up : List Str
  lo : List Str
deriving DecidableEq
namespace Od
def plc (o : Od) : List Int := o.up.map fun x => (o.lo.idxOf x : Int)
def upAt (o : Od) : List (Str × Int) := idxD o.up
def loAt (o : Od) : List (Str × Int) := idxD o.lo
def whole (o : Od) : Bool := if 1 < (o.up.length : Int) then decide (((bEnds o.plc).length : Int) = 1) else false
def ndlOf (up lo : List Str) : List (Str × (Str × Unit)) := (zip2 up (up.drop 1)).filterMap fun a => if (lo.idxOf a.2.1 : Int) = (lo.idxOf a.1 : Int) + 1 then some (a.1, a.2.1, ()) else none
def ndl (o : Od) : List (Str × (Str × Unit)) := ndlOf o.up o.lo
def txt (o : Od) : Str := Txt.join " " o.up ++ " / " ++ Txt.join " " o.lo
def Names (o : Od) (b : List Str) : Prop := b.Perm o.up ∧ sortedS b = true
end Od
structure okOrd (o : Od) : Prop where
  up : okRow o.up
  lo : okRow o.lo
  pm : o.lo.Perm o.up
theorem cutL_from {α : Type} (xs : List α) : cutL xs (some 1) none = xs.drop 1 := by
  unfold cutL
  have e1 : HT.sIx xs.length 0 (some 1) = min 1 xs.length := HT.sIx_nat _ _ 1
  have e2 : HT.sIx xs.length xs.length none = xs.length := rfl
  rw [e1, e2]
  by_cases h : xs.length = 0
  · rw [List.length_eq_zero_iff.mp h]; rfl
  · rw [Nat.min_eq_left (by omega), List.take_of_length_le (by rw [List.length_drop]; omega)]
theorem zip2_mem {α β : Type} {xs : List α} {ys : List β} {a : α × β × Unit} (h : a ∈ zip2 xs ys) : a.1 ∈ xs ∧ a.2.1 ∈ ys := by
  unfold zip2 at h
  obtain ⟨p, hp, rfl⟩ := List.mem_map.mp h
  exact List.of_mem_zip (a := p.1) (b := p.2) hp
theorem zip2_len {α β : Type} (xs : List α) (ys : List β) : (zip2 xs ys).length = min xs.length ys.length := by
  unfold zip2; rw [List.length_map, List.length_zip]
theorem w_needless_in {up lo : List Str} {Q : List (Str × (Str × Unit)) → Nat → Prop} (hl : up.length ≤ 1000) (h : ∀ x ∈ up, x ∈ lo) (q : Q (Od.ndlOf up lo) c) : (m_needless_in (up, idxD lo, ())).wp c Q X := by
  simp only [m_needless_in, b_needless_in, M.none_wp, M.bind_wp, M.ret_wp, M.need_wp, M.the_wp, M.ifb_wp, M.anyOf_wp, M.still_wp, M.roll_wp, M.pick_wp, M.thn_wp, M.thn_nx, M.thn_rt, M.thn_bk, M.thn_ct, M.fin_wp, M.fin_rt, M.finN_wp, M.finN_rt, M.finN_nx, M.FK_nx, M.FK_ct, M.FK_bk, M.FK_rt, decide_eq_true_eq, if_true, if_false, Bool.false_eq_true, Bool.not_eq_true', decide_eq_false_iff_not, Bool.not_true, Bool.not_false, ite_not]
  rw [cutL_from]
  refine ⟨by rw [zip2_len]; omega, M.lcM_filter (g := fun (a : Str × (Str × Unit)) => if (lo.idxOf a.2.1 : Int) = (lo.idxOf a.1 : Int) + 1 then some (a.1, a.2.1, ()) else none) (fun a ha Q q => ?_) q⟩
  obtain ⟨h1, h2⟩ := zip2_mem ha
  simp only [M.none_wp, M.bind_wp, M.ret_wp, M.need_wp, M.the_wp, M.ifb_wp, M.anyOf_wp, M.still_wp, M.roll_wp, M.pick_wp, M.thn_wp, M.thn_nx, M.thn_rt, M.thn_bk, M.thn_ct, M.fin_wp, M.fin_rt, M.finN_wp, M.finN_rt, M.finN_nx, M.FK_nx, M.FK_ct, M.FK_bk, M.FK_rt, decide_eq_true_eq, if_true, if_false, Bool.false_eq_true, Bool.not_eq_true', decide_eq_false_iff_not, Bool.not_true, Bool.not_false, ite_not]
  refine ⟨_, dget_idx (h _ (List.mem_of_mem_drop h2)), _, dget_idx (h _ h1), ?_⟩
  by_cases z : (lo.idxOf a.2.1 : Int) = (lo.idxOf a.1 : Int) + 1
  · rw [if_pos z] at q ⊢; exact q
  · rw [if_neg z] at q ⊢; exact q
/-! ### sorted texts -/
theorem lt_asymm : ∀ {a b : List Nat}, ltCps a b = false → ltCps b a = false → a = b
  | [], [], _, _ => rfl
  | [], _ :: _, h, _ => by cases h
  | _ :: _, [], _, h => by cases h
  | x :: a, y :: b, h, k => by
    unfold ltCps at h k
    simp only [Bool.or_eq_false_iff, Bool.and_eq_false_iff, decide_eq_false_iff_not, beq_eq_false_iff_ne] at h k
    have e : x = y := by omega
    subst e
    rw [lt_asymm (a := a) (b := b) (by simpa using h.2) (by simpa using k.2)]
theorem lt_trans : ∀ {a b c : List Nat}, ltCps b a = false → ltCps c b = false → ltCps c a = false
  | [], [], [], _, _ => rfl
  | [], [], _ :: _, _, _ => rfl
  | [], _ :: _, [], _, k => by cases k
  | [], _ :: _, _ :: _, _, _ => rfl
  | _ :: _, [], _, h, _ => by cases h
  | x :: a, y :: b, [], _, k => by cases k
  | x :: a, y :: b, z :: d, h, k => by
    unfold ltCps at h k ⊢
    simp only [Bool.or_eq_false_iff, Bool.and_eq_false_iff, decide_eq_false_iff_not, beq_eq_false_iff_ne] at h k ⊢
    refine ⟨by omega, ?_⟩
    by_cases e : z = x
    · right
      have e1 : y = x := by omega
      subst e1 e
      exact lt_trans (a := a) (b := b) (c := d) (by simpa using h.2) (by simpa using k.2)
    · exact .inl e
theorem rising_pw : ∀ (p : Str) (l : List Str), risingS p l = true → (p :: l).Pairwise (fun a b => ltCps b.cps.toList a.cps.toList = false)
  | p, [], _ => by simp
  | p, x :: r, h => by
    have h' : (!ltCps x.cps.toList p.cps.toList && risingS x r) = true := h
    rw [Bool.and_eq_true, Bool.not_eq_true'] at h'
    have ih := rising_pw x r h'.2
    rw [List.pairwise_cons]
    refine ⟨fun y hy => ?_, ih⟩
    rcases List.mem_cons.mp hy with rfl | hy
    · exact h'.1
    · exact lt_trans h'.1 (List.rel_of_pairwise_cons ih hy)
theorem sorted_pw {l : List Str} (h : sortedS l = true) : l.Pairwise (fun a b => ltCps b.cps.toList a.cps.toList = false) := by
  cases l with
  | nil => exact List.Pairwise.nil
  | cons x r => exact rising_pw x r h
theorem sorted_eq {a b : List Str} (p : a.Perm b) (ha : sortedS a = true) (hb : sortedS b = true) : a = b :=
  List.Perm.eq_of_pairwise (fun x y _ _ h k => by
    have e := lt_asymm k h
    cases x; cases y
    congr 1
    exact Array.toList_inj.mp e) (sorted_pw ha) (sorted_pw hb) p
/-! ### equal data -/
theorem eqv_same {d : PyData} (h : d.canLay0 = true) : PyData.eqv d d = true := SeqAt.eqv_refl d h
theorem lay_nil : PyData.canLayAll0 [] = true := by simp only [PyData.canLayAll0]
theorem lay_cons {d : PyData} {ds : List PyData} (h : d.canLay0 = true) (k : PyData.canLayAll0 ds = true) : PyData.canLayAll0 (d :: ds) = true := by simp only [PyData.canLayAll0, h, k, Bool.and_self]
theorem lay_all {ds : List PyData} (h : ∀ d ∈ ds, d.canLay0 = true) : PyData.canLayAll0 ds = true := by
  induction ds with
  | nil => exact lay_nil
  | cons d ds ih => exact lay_cons (h d (List.mem_cons_self ..)) (ih fun e he => h e (List.mem_cons_of_mem _ he))
theorem lay_list {ds : List PyData} (h : ∀ d ∈ ds, d.canLay0 = true) : (PyData.list ds).canLay0 = true := by simp only [PyData.canLay0]; exact lay_all h
theorem lay_tup {ds : List PyData} (h : ∀ d ∈ ds, d.canLay0 = true) : (PyData.tuple ds).canLay0 = true := by simp only [PyData.canLay0]; exact lay_all h
theorem lay_int (i : Int) : (PyData.int i).canLay0 = true := by simp only [PyData.canLay0]
theorem lay_bool (i : Bool) : (PyData.bool i).canLay0 = true := by simp only [PyData.canLay0]
theorem lay_map {α : Type} {f : α → PyData} {l : List α} (h : ∀ a ∈ l, (f a).canLay0 = true) : ∀ d ∈ l.map f, d.canLay0 = true := fun d hd => by
  obtain ⟨a, ha, rfl⟩ := List.mem_map.mp hd
  exact h a ha
theorem lay_str {x : Str} (h : okName x) : (PyData.str x).canLay0 = true := by
  simp only [PyData.canLay0]
  exact h.ok
theorem lay_strs {l : List Str} (h : ∀ x ∈ l, okName x) : ∀ d ∈ l.map PyData.str, d.canLay0 = true := lay_map fun x hx => lay_str (h x hx)
theorem lay_ints (l : List Int) : ∀ d ∈ l.map PyData.int, d.canLay0 = true := lay_map fun x _ => lay_int x
/-! ### Order(..) -/
theorem idx_mem {o : Od} (h : okOrd o) {x : Str} (hx : x ∈ o.up) : x ∈ o.lo := h.pm.mem_iff.mpr hx
theorem nm_len {l : List Str} (h : ∀ x ∈ l, okName x) : (l.map (·.length)).sum ≤ l.length * 8 := by
  induction l with
  | nil => simp
  | cons x l ih =>
    have h1 := (h x (List.mem_cons_self ..)).n8
    have h2 := ih fun y hy => h y (List.mem_cons_of_mem _ hy)
    rw [List.map_cons, List.sum_cons, List.length_cons]
    omega
theorem joinL_len (s : List Nat) : ∀ ps : List (List Nat), (joinL s ps).length ≤ (ps.map (·.length)).sum + ps.length * s.length
  | [] => by simp [joinL]
  | [p] => by simp [joinL]
  | p :: q :: r => by
    have ih := joinL_len s (q :: r)
    show (p ++ (s ++ joinL s (q :: r))).length ≤ _
    rw [List.length_append, List.length_append, List.map_cons, List.sum_cons, List.length_cons (as := q :: r), Nat.succ_mul]
    omega
theorem join_len (y : Str) (l : List Str) : (Txt.join y l).length ≤ (l.map (·.length)).sum + l.length * y.length := by
  have e : ∀ x : Str, x.length = (tl x).length := fun x => by unfold tl; rw [Array.length_toList]; rfl
  rw [e, join_eq, tl_join]
  refine Nat.le_trans (joinL_len _ _) ?_
  rw [List.length_map, List.map_map, ← e y]
  rw [show ((fun x : List Nat => x.length) ∘ tl) = fun x : Str => x.length from funext fun x => (e x).symm]
  exact Nat.le_refl _
theorem app_len (x y : Str) : (x ++ y).length = x.length + y.length := by
  have e : ∀ x : Str, x.length = (tl x).length := fun x => by unfold tl; rw [Array.length_toList]; rfl
  rw [e, tl_append, List.length_append, ← e, ← e]
theorem row_sum {l : List Str} (h : okRow l) : (l.map (·.length)).sum + l.length * (" " : Str).length ≤ 360 := by
  have h1 := nm_len h.nm
  have h2 := h.n40
  rw [show (" " : Str).length = 1 by decide]
  omega
theorem row_join {l : List Str} (h : okRow l) : (Txt.join " " l).length ≤ 360 := Nat.le_trans (join_len _ _) (row_sum h)
theorem w_init {o : Od} {Q : _ → Nat → Prop} (h : okOrd o) (q : ∀ ns, o.Names ns → Q (o.whole, o.lo, o.loAt, ns, o.ndl, o.plc, o.txt, o.up, o.upAt, ()) c) : (m_Order___init__ (o.up, o.lo, ())).wp c Q X := by
  simp only [m_Order___init__, b_Order___init__, M.none_wp, M.bind_wp, M.ret_wp, M.need_wp, M.the_wp, M.ifb_wp, M.anyOf_wp, M.still_wp, M.roll_wp, M.pick_wp, M.thn_wp, M.thn_nx, M.thn_rt, M.thn_bk, M.thn_ct, M.fin_wp, M.fin_rt, M.finN_wp, M.finN_rt, M.finN_nx, M.FK_nx, M.FK_ct, M.FK_bk, M.FK_rt, decide_eq_true_eq, if_true, if_false, Bool.false_eq_true, Bool.not_eq_true', decide_eq_false_iff_not, Bool.not_true, Bool.not_false, ite_not, M.finI_wp, M.finI_nx]
  have h40 := h.up.n40
  have k40 := h.lo.n40
  refine w_is_row h.up ?_
  simp only [Bool.true_eq_false, if_false]
  refine w_is_row h.lo ?_
  simp only [Bool.true_eq_false, if_false]
  refine ⟨by omega, fun b hb => ⟨by omega, fun b' hb' => ?_⟩⟩
  obtain ⟨p1, s1⟩ := hb
  obtain ⟨p2, s2⟩ := hb'
  have e : b = b' := sorted_eq (p1.trans (h.pm.symm.trans p2.symm)) s1 s2
  subst e
  have l1 : (PyData.list (b.map PyData.str)).canLay0 = true := lay_list (lay_strs fun x hx => h.up.nm x (p1.mem_iff.mp hx))
  refine ⟨⟨l1, l1⟩, ?_⟩
  rw [eqv_same l1]
  simp only [Bool.true_eq_false, if_false]
  refine ⟨by omega, fun ns hns => ⟨by rw [enum0_len]; omega, M.lcM_map (g := fun (a : Int × (Str × Unit)) => (a.2.1, a.1)) (fun a ha Q q => q) ⟨by rw [enum0_len]; omega, M.lcM_map (g := fun (a : Int × (Str × Unit)) => (a.2.1, a.1)) (fun a ha Q q => q) ?_⟩⟩⟩
  rw [w_idx h.up.nd, w_idx h.lo.nd]
  refine ⟨by omega, M.lcM_map (g := fun x => (o.lo.idxOf x : Int)) (fun a ha Q q => ⟨_, dget_idx (idx_mem h ha), q⟩) ?_⟩
  have r1 := row_sum h.up
  have r2 := row_sum h.lo
  have j1 := row_join h.up
  have j2 := row_join h.lo
  have l3 : (" / " : Str).length = 3 := by decide
  have fin : ∀ wh : Bool, wh = o.whole → (m_needless_in (o.up, idxD o.lo, ())).wp 0 (fun a x => (o.up.map (·.length)).sum + o.up.length * (" " : Str).length ≤ 16777216 ∧ (Txt.join " " o.up).length + (" / " : Str).length ≤ sizeLine ∧ (o.lo.map (·.length)).sum + o.lo.length * (" " : Str).length ≤ 16777216 ∧ (Txt.join " " o.up ++ " / ").length + (Txt.join " " o.lo).length ≤ sizeLine ∧ Q (wh, o.lo, idxD o.lo, ns, a, o.plc, Txt.join " " o.up ++ " / " ++ Txt.join " " o.lo, o.up, idxD o.up, ()) c) X := fun wh ew => by
    refine w_needless_in (by omega) (fun x hx => idx_mem h hx) ?_
    refine ⟨by omega, sizeL (by omega), by omega, sizeL (by rw [app_len]; omega), ?_⟩
    rw [ew]
    exact q ns hns
  by_cases z : 1 < (o.up.length : Int)
  · simp only [z, if_true]
    refine w_block_ends (by rw [List.length_map]; omega) (fin _ ?_)
    unfold Od.whole; rw [if_pos z]; rfl
  · simp only [z, if_false]
    refine fin _ ?_
    unfold Od.whole; rw [if_neg z]
end
end PF2

set_option Elab.async false
set_option linter.all false
set_option maxRecDepth 100000
set_option maxHeartbeats 400000
set_option exponentiation.threshold 20000
namespace PF2
open PF PySem PySem.Spec PyProof.Rows L2 SlX
/-! ### orders in the heap -/
abbrev rPr (K : PySem.W.Frag) : Rp (Str × (Str × Unit)) := rTx K (aCons rStr (aCons rStr aNil))
abbrev UO (K : PySem.W.Frag) := vVal rBl (vVal (rTup K rStr) (vVal (rDct (κ := Str) Sum.inr rInt) (vVal (rTup K rStr) (vVal (rTup K (rPr K)) (vVal (rTup K rInt) (vVal rStr (vVal (rTup K rStr) (vVal (rDct (κ := Str) Sum.inr rInt) vNil))))))))
abbrev FO := Bool × List Str × List (Str × Int) × List Str × List (Str × (Str × Unit)) × List Int × Str × List Str × List (Str × Int) × Unit
def Od.fs (o : Od) (ns : List Str) : FO := (o.whole, o.lo, o.loAt, ns, o.ndl, o.plc, o.txt, o.up, o.upAt, ())
def rOrd (K : PySem.W.Frag) (CO : Addr) : Rp Od := ⟨fun F v o => ∃ ns, o.Names ns ∧ (rObj CO (UO K)).r F v (o.fs ns), fun s ⟨ns, h, k⟩ => ⟨ns, h, (rObj CO (UO K)).st s k⟩⟩
section
variable {K : PySem.W.Frag} {CO : Addr} {β : Type} {Rb : Rp β}
theorem slr_ord : SlR1 (rOrd K CO) CO := ⟨fun ⟨ns, h, k⟩ => slr_obj.at_ k⟩
theorem slg_ord {i : Nat} {g : FO → β} {f : Od → β} (hv : VGet (UO K) i Rb g) (h : ∀ o ns, g (Od.fs o ns) = f o) : SlG (rOrd K CO) CO i Rb (fun a b => b = f a) := ⟨fun {F v o} ⟨ns, hn, k⟩ => by
  obtain ⟨p, dx, vs, x, b, e, sl, ex, r, eb⟩ := (slg_obj hv).get k
  exact ⟨p, dx, vs, x, b, e, sl, ex, r, eb.trans (h o ns)⟩⟩
theorem slg_own_is_whole : SlG (rOrd K CO) CO 0 rBl (fun a b => b = Od.whole a) := slg_ord vget0 fun _ _ => rfl
theorem slg_own_lower : SlG (rOrd K CO) CO 1 (rTup K rStr) (fun a b => b = Od.lo a) := slg_ord (vgetS vget0) fun _ _ => rfl
theorem slg_own_lower_at : SlG (rOrd K CO) CO 2 (rDct Sum.inr rInt) (fun a b => b = Od.loAt a) := slg_ord (vgetS (vgetS vget0)) fun _ _ => rfl
theorem slg_own_names : SlG (rOrd K CO) CO 3 (rTup K rStr) Od.Names := ⟨fun {F v o} ⟨ns, hn, k⟩ => by
  obtain ⟨p, dx, vs, x, b, e, sl, ex, r, eb⟩ := (slg_obj (U := UO K) (C := CO) (i := 3) (vgetS (vgetS (vgetS vget0)))).get k
  exact ⟨p, dx, vs, x, b, e, sl, ex, r, eb ▸ hn⟩⟩
theorem slg_own_needless : SlG (rOrd K CO) CO 4 (rTup K (rPr K)) (fun a b => b = Od.ndl a) := slg_ord (vgetS (vgetS (vgetS (vgetS vget0)))) fun _ _ => rfl
theorem slg_own_places : SlG (rOrd K CO) CO 5 (rTup K rInt) (fun a b => b = Od.plc a) := slg_ord (vgetS (vgetS (vgetS (vgetS (vgetS vget0))))) fun _ _ => rfl
theorem slg_own_text : SlG (rOrd K CO) CO 6 rStr (fun a b => b = Od.txt a) := slg_ord (vgetS (vgetS (vgetS (vgetS (vgetS (vgetS vget0)))))) fun _ _ => rfl
theorem slg_own_upper : SlG (rOrd K CO) CO 7 (rTup K rStr) (fun a b => b = Od.up a) := slg_ord (vgetS (vgetS (vgetS (vgetS (vgetS (vgetS (vgetS vget0))))))) fun _ _ => rfl
theorem slg_own_upper_at : SlG (rOrd K CO) CO 8 (rDct Sum.inr rInt) (fun a b => b = Od.upAt a) := slg_ord (vgetS (vgetS (vgetS (vgetS (vgetS (vgetS (vgetS (vgetS vget0)))))))) fun _ _ => rfl
theorem e_mkOrd {Γ : Type} {E : EV Γ} {ta : TA} {ma : Γ → M (List Str × (List Str × Unit))} (ha : SA md0 E (aCons (rTup K rStr) (aCons (rTup K rStr) aNil)) ta ma) :
    SE md0 E (rOrd K CO) (tMake CO (spOfI CO (aCons (rTup K rStr) (aCons (rTup K rStr) aNil)) (rObj CO (UO K)) m_Order___init__) [] E0 ta) fun ρ => (ma ρ).bind fun a => .need (okOrd ⟨a.1, a.2.1⟩) (.ret (Od.mk a.1 a.2.1)) :=
  e_makeF (U := UO K) (C := CO) (m := m_Order___init__) (f := fun a => Od.mk a.1 a.2.1) (P := fun a => okOrd ⟨a.1, a.2.1⟩) (Fl := fun o b => ∃ ns, o.Names ns ∧ b = Od.fs o ns) (Rd := rOrd K CO) (fun {F v d b} ⟨ns, h, e⟩ k => ⟨ns, h, by rw [← e]; exact k⟩)
    (fun ⟨u, l, ⟨⟩⟩ c Q X h q => w_init (o := ⟨u, l⟩) h fun ns hn => q (Od.fs ⟨u, l⟩ ns) ⟨ns, hn, rfl⟩) ha
end
end PF2

set_option Elab.async false
set_option linter.all false
set_option maxRecDepth 100000
set_option maxHeartbeats 400000
set_option exponentiation.threshold 20000
namespace PF2
open PF PySem PySem.Spec PyProof.Rows L2 SlX
section
variable {P : Program} {w : World} {K : PySem.W.Frag} {mg : Str → Option Value} {base : Heap} {f CO : Addr} {fd : FuncData}
theorem sc_Order_above : FnScope ["self"] ["self"] (defScope (inClass (topS 17) 3)) := ⟨rfl, rfl, rfl, by decide +kernel, rfl, by decide +kernel, by decide +kernel⟩
noncomputable def b_Order_above (ρ : (Od × Unit)) : M (Ct Unit Unit (List Str)) := (M.bind (M.bind (M.ret ρ.1) fun (x1 : Od) => M.ret (Od.up x1)) fun (x2 : (List Str)) => M.ret (.rt x2))
noncomputable def m_Order_above (a : (Od × Unit)) : M (List Str) := M.fin (b_Order_above (a.1, ()))
theorem ok_Order_above (F : Fun K "above" "Order.above" (inClass (topS 17) 3) f fd) (T : OTx K mg CO) : FnOk P w K mg base CX0 2 f fd ["self"] (spOf (aCons (rOrd K CO) aNil) (rTup K rStr) m_Order_above) := by
  refine F.ok sc_Order_above (fun vs H Q E h => spOf_len h) (fun cdv A outer s H vs Q E hr h => ⟨_, (pss_one (ps_ret (pe_slC T.cCO T.s_own_upper (pv 0)))), ?_⟩)
  refine fn_body (X := E) (S := (aCons (rOrd K CO) aNil)) (E' := eNil) (R := (rTup K rStr)) (st_par st_nil) rfl (s_ret (e_slot slg_own_upper (e_var get0))) ?_
  exact h
theorem sc_Order_below : FnScope ["self"] ["self"] (defScope (inClass (topS 17) 4)) := ⟨rfl, rfl, rfl, by decide +kernel, rfl, by decide +kernel, by decide +kernel⟩
noncomputable def b_Order_below (ρ : (Od × Unit)) : M (Ct Unit Unit (List Str)) := (M.bind (M.bind (M.ret ρ.1) fun (x3 : Od) => M.ret (Od.lo x3)) fun (x4 : (List Str)) => M.ret (.rt x4))
noncomputable def m_Order_below (a : (Od × Unit)) : M (List Str) := M.fin (b_Order_below (a.1, ()))
theorem ok_Order_below (F : Fun K "below" "Order.below" (inClass (topS 17) 4) f fd) (T : OTx K mg CO) : FnOk P w K mg base CX0 2 f fd ["self"] (spOf (aCons (rOrd K CO) aNil) (rTup K rStr) m_Order_below) := by
  refine F.ok sc_Order_below (fun vs H Q E h => spOf_len h) (fun cdv A outer s H vs Q E hr h => ⟨_, (pss_one (ps_ret (pe_slC T.cCO T.s_own_lower (pv 0)))), ?_⟩)
  refine fn_body (X := E) (S := (aCons (rOrd K CO) aNil)) (E' := eNil) (R := (rTup K rStr)) (st_par st_nil) rfl (s_ret (e_slot slg_own_lower (e_var get0))) ?_
  exact h
theorem sc_Order_names : FnScope ["self"] ["self"] (defScope (inClass (topS 17) 5)) := ⟨rfl, rfl, rfl, by decide +kernel, rfl, by decide +kernel, by decide +kernel⟩
noncomputable def b_Order_names (ρ : (Od × Unit)) : M (Ct Unit Unit (List Str)) := (M.bind (M.bind (M.ret ρ.1) fun (x5 : Od) => M.anyOf (Od.Names x5)) fun (x6 : (List Str)) => M.ret (.rt x6))
noncomputable def m_Order_names (a : (Od × Unit)) : M (List Str) := M.fin (b_Order_names (a.1, ()))
theorem ok_Order_names (F : Fun K "names" "Order.names" (inClass (topS 17) 5) f fd) (T : OTx K mg CO) : FnOk P w K mg base CX0 2 f fd ["self"] (spOf (aCons (rOrd K CO) aNil) (rTup K rStr) m_Order_names) := by
  refine F.ok sc_Order_names (fun vs H Q E h => spOf_len h) (fun cdv A outer s H vs Q E hr h => ⟨_, (pss_one (ps_ret (pe_slC T.cCO T.s_own_names (pv 0)))), ?_⟩)
  refine fn_body (X := E) (S := (aCons (rOrd K CO) aNil)) (E' := eNil) (R := (rTup K rStr)) (st_par st_nil) rfl (s_ret (e_slotP slg_own_names (e_var get0))) ?_
  exact h
theorem sc_Order_many : FnScope ["self"] ["self"] (defScope (inClass (topS 17) 6)) := ⟨rfl, rfl, rfl, by decide +kernel, rfl, by decide +kernel, by decide +kernel⟩
noncomputable def b_Order_many (ρ : (Od × Unit)) : M (Ct Unit Unit Int) := (M.bind (M.bind (M.bind (M.bind (M.ret ρ.1) fun (x7 : Od) => M.ret (Od.up x7)) fun (x8 : (List Str)) => M.bind (M.ret ()) fun (x9 : Unit) => M.ret (x8, x9)) fun (r10 : ((List Str) × Unit)) => M.ret (r10.1.length : Int)) fun (x11 : Int) => M.ret (.rt x11))
noncomputable def m_Order_many (a : (Od × Unit)) : M Int := M.fin (b_Order_many (a.1, ()))
theorem ok_Order_many (F : Fun K "many" "Order.many" (inClass (topS 17) 6) f fd) (T : OTx K mg CO) (fr : Free mg) : FnOk P w K mg base CX0 2 f fd ["self"] (spOf (aCons (rOrd K CO) aNil) rInt m_Order_many) := by
  refine F.ok sc_Order_many (fun vs H Q E h => spOf_len h) (fun cdv A outer s H vs Q E hr h => ⟨_, (pss_one (ps_ret (pe_callB call_len (by rfl) fr.b_len (by decide +kernel) (pa_cons (pe_slC T.cCO T.s_own_upper (pv 0)) pa_nil)))), ?_⟩)
  refine fn_body (X := E) (S := (aCons (rOrd K CO) aNil)) (E' := eNil) (R := rInt) (st_par st_nil) rfl (s_ret (e_ca (c_len len_tup) (a_cons (e_slot slg_own_upper (e_var get0)) a_nil))) ?_
  exact h
theorem sc_Order_places : FnScope ["self"] ["self"] (defScope (inClass (topS 17) 7)) := ⟨rfl, rfl, rfl, by decide +kernel, rfl, by decide +kernel, by decide +kernel⟩
noncomputable def b_Order_places (ρ : (Od × Unit)) : M (Ct Unit Unit (List Int)) := (M.bind (M.bind (M.ret ρ.1) fun (x12 : Od) => M.ret (Od.plc x12)) fun (x13 : (List Int)) => M.ret (.rt x13))
noncomputable def m_Order_places (a : (Od × Unit)) : M (List Int) := M.fin (b_Order_places (a.1, ()))
theorem ok_Order_places (F : Fun K "places" "Order.places" (inClass (topS 17) 7) f fd) (T : OTx K mg CO) : FnOk P w K mg base CX0 2 f fd ["self"] (spOf (aCons (rOrd K CO) aNil) (rTup K rInt) m_Order_places) := by
  refine F.ok sc_Order_places (fun vs H Q E h => spOf_len h) (fun cdv A outer s H vs Q E hr h => ⟨_, (pss_one (ps_ret (pe_slC T.cCO T.s_own_places (pv 0)))), ?_⟩)
  refine fn_body (X := E) (S := (aCons (rOrd K CO) aNil)) (E' := eNil) (R := (rTup K rInt)) (st_par st_nil) rfl (s_ret (e_slot slg_own_places (e_var get0))) ?_
  exact h
theorem sc_Order_is_whole : FnScope ["self"] ["self"] (defScope (inClass (topS 17) 8)) := ⟨rfl, rfl, rfl, by decide +kernel, rfl, by decide +kernel, by decide +kernel⟩
noncomputable def b_Order_is_whole (ρ : (Od × Unit)) : M (Ct Unit Unit Bool) := (M.bind (M.bind (M.ret ρ.1) fun (x14 : Od) => M.ret (Od.whole x14)) fun (x15 : Bool) => M.ret (.rt x15))
noncomputable def m_Order_is_whole (a : (Od × Unit)) : M Bool := M.fin (b_Order_is_whole (a.1, ()))
theorem ok_Order_is_whole (F : Fun K "is_whole" "Order.is_whole" (inClass (topS 17) 8) f fd) (T : OTx K mg CO) : FnOk P w K mg base CX0 2 f fd ["self"] (spOf (aCons (rOrd K CO) aNil) rBl m_Order_is_whole) := by
  refine F.ok sc_Order_is_whole (fun vs H Q E h => spOf_len h) (fun cdv A outer s H vs Q E hr h => ⟨_, (pss_one (ps_ret (pe_slC T.cCO T.s_own_is_whole (pv 0)))), ?_⟩)
  refine fn_body (X := E) (S := (aCons (rOrd K CO) aNil)) (E' := eNil) (R := rBl) (st_par st_nil) rfl (s_ret (e_slot slg_own_is_whole (e_var get0))) ?_
  exact h

theorem sc_Order___len__ : FnScope ["self"] ["self"] (defScope (inClass (topS 17) 16)) := ⟨rfl, rfl, rfl, by decide +kernel, rfl, by decide +kernel, by decide +kernel⟩
noncomputable def b_Order___len__ (ρ : (Od × Unit)) : M (Ct Unit Unit Int) := (M.bind (M.bind (M.bind (M.bind (M.ret ρ.1) fun (x16 : Od) => M.ret (Od.up x16)) fun (x17 : (List Str)) => M.bind (M.ret ()) fun (x18 : Unit) => M.ret (x17, x18)) fun (r19 : ((List Str) × Unit)) => M.ret (r19.1.length : Int)) fun (x20 : Int) => M.ret (.rt x20))
noncomputable def m_Order___len__ (a : (Od × Unit)) : M Int := M.fin (b_Order___len__ (a.1, ()))
theorem ok_Order___len__ (F : Fun K "__len__" "Order.__len__" (inClass (topS 17) 16) f fd) (T : OTx K mg CO) (fr : Free mg) : FnOk P w K mg base CX0 2 f fd ["self"] (spOf (aCons (rOrd K CO) aNil) rInt m_Order___len__) := by
  refine F.ok sc_Order___len__ (fun vs H Q E h => spOf_len h) (fun cdv A outer s H vs Q E hr h => ⟨_, (pss_one (ps_ret (pe_callB call_len (by rfl) fr.b_len (by decide +kernel) (pa_cons (pe_slC T.cCO T.s_own_upper (pv 0)) pa_nil)))), ?_⟩)
  refine fn_body (X := E) (S := (aCons (rOrd K CO) aNil)) (E' := eNil) (R := rInt) (st_par st_nil) rfl (s_ret (e_ca (c_len len_tup) (a_cons (e_slot slg_own_upper (e_var get0)) a_nil))) ?_
  exact h
theorem sc_Order___contains__ : FnScope ["self", "value"] ["self", "value"] (defScope (inClass (topS 17) 17)) := ⟨rfl, rfl, rfl, by decide +kernel, rfl, by decide +kernel, by decide +kernel⟩
noncomputable def b_Order___contains__ (ρ : (Od × ((Option Str) × Unit))) : M (Ct Unit Unit Bool) := (M.bind (M.bind (M.bind (M.bind (M.ret ρ.2.1) fun (x23 : (Option Str)) => M.bind (M.bind (M.ret ()) fun (x21 : Unit) => M.bind (M.ret ()) fun (x22 : Unit) => M.ret (x21, x22)) fun (x24 : (Unit × Unit)) => M.ret (x23, x24)) fun (r25 : ((Option Str) × (Unit × Unit))) => M.ret (Option.isSome r25.1)) fun (x30 : Bool) => M.ifb x30 (M.bind (M.bind (M.ret ρ.2.1) fun (x27 : (Option Str)) => M.the (id x27)) fun (x28 : Str) => M.bind (M.bind (M.ret ρ.1) fun (x26 : Od) => M.ret (Od.upAt x26)) fun (x29 : (List (Str × Int))) => M.ret ((dget x29 x28).isSome)) (M.ret false)) fun (x31 : Bool) => M.ret (.rt x31))
noncomputable def m_Order___contains__ (a : (Od × ((Option Str) × Unit))) : M Bool := M.fin (b_Order___contains__ (a.1, (a.2.1, ())))
theorem ok_Order___contains__ (F : Fun K "__contains__" "Order.__contains__" (inClass (topS 17) 17) f fd) (fr : Free mg) (T : OTx K mg CO) : FnOk P w K mg base CX0 2 f fd ["self", "value"] (spOf (aCons (rOrd K CO) (aCons (rSx K) aNil)) rBl m_Order___contains__) := by
  refine F.ok sc_Order___contains__ (fun vs H Q E h => spOf_len h) (fun cdv A outer s H vs Q E hr h => ⟨_, (pss_one (ps_ret (pe_and (pe_callB call_isiU (by rfl) fr.b_isinstance (by decide +kernel) (pa_cons (pv 1) (pa_cons (pe_bltn (v := .ty "str") (by rfl) fr.b_str (by decide +kernel) rfl) pa_nil))) (pe_one (pe_cmp (pc_din (hu_of hr) (pv 1) (pe_slC T.cCO T.s_own_upper_at (pv 0))) (by rfl)))))), ?_⟩)
  refine fn_body (X := E) (S := (aCons (rOrd K CO) (aCons (rSx K) aNil))) (E' := eNil) (R := rBl) (st_par (st_par st_nil)) rfl (s_ret (e_and (e_ca c_isiSx (a_cons (e_var (getS get0)) (a_cons e_tyV a_nil))) (e_din ky_str (e_the (f := id) sx_get (e_var (getS get0))) (e_slot slg_own_upper_at (e_var get0))))) ?_
  exact h
theorem sc_Order___eq__ : FnScope ["self", "other"] ["self", "other"] (defScope (inClass (topS 17) 19)) := ⟨rfl, rfl, rfl, by decide +kernel, rfl, by decide +kernel, by decide +kernel⟩
noncomputable def b_Order___eq__ (ρ : (Od × ((Option Od) × Unit))) : M (Ct Unit Unit Bool) := (M.bind (M.bind (M.bind (M.bind (M.ret ρ.2.1) fun (x34 : (Option Od)) => M.bind (M.bind (M.ret ()) fun (x32 : Unit) => M.bind (M.ret ()) fun (x33 : Unit) => M.ret (x32, x33)) fun (x35 : (Unit × Unit)) => M.ret (x34, x35)) fun (r36 : ((Option Od) × (Unit × Unit))) => M.ret (Option.isSome r36.1)) fun (x48 : Bool) => M.ifb x48 (M.bind (M.bind (M.bind (M.ret ρ.1) fun (x37 : Od) => M.ret (Od.up x37)) fun (x40 : (List Str)) => M.bind (M.bind (M.bind (M.ret ρ.2.1) fun (x38 : (Option Od)) => M.the (id x38)) fun (x39 : Od) => M.ret (Od.up x39)) fun (x41 : (List Str)) => M.need (((fun (xs : (List Str)) => PyData.tuple (xs.map PyData.str)) x40).canLay0 = true ∧ ((fun (xs : (List Str)) => PyData.tuple (xs.map PyData.str)) x41).canLay0 = true) (M.ret (PyData.eqv ((fun (xs : (List Str)) => PyData.tuple (xs.map PyData.str)) x40) ((fun (xs : (List Str)) => PyData.tuple (xs.map PyData.str)) x41)))) fun (x47 : Bool) => M.ifb x47 (M.bind (M.bind (M.ret ρ.1) fun (x42 : Od) => M.ret (Od.lo x42)) fun (x45 : (List Str)) => M.bind (M.bind (M.bind (M.ret ρ.2.1) fun (x43 : (Option Od)) => M.the (id x43)) fun (x44 : Od) => M.ret (Od.lo x44)) fun (x46 : (List Str)) => M.need (((fun (xs : (List Str)) => PyData.tuple (xs.map PyData.str)) x45).canLay0 = true ∧ ((fun (xs : (List Str)) => PyData.tuple (xs.map PyData.str)) x46).canLay0 = true) (M.ret (PyData.eqv ((fun (xs : (List Str)) => PyData.tuple (xs.map PyData.str)) x45) ((fun (xs : (List Str)) => PyData.tuple (xs.map PyData.str)) x46)))) (M.ret false)) (M.ret false)) fun (x49 : Bool) => M.ret (.rt x49))
noncomputable def m_Order___eq__ (a : (Od × ((Option Od) × Unit))) : M Bool := M.fin (b_Order___eq__ (a.1, (a.2.1, ())))
theorem ok_Order___eq__ (F : Fun K "__eq__" "Order.__eq__" (inClass (topS 17) 19) f fd) (T : OTx K mg CO) (fr : Free mg) : FnOk P w K mg base CX0 2 f fd ["self", "other"] (spOf (aCons (rOrd K CO) (aCons (rOr K CO (rOrd K CO)) aNil)) rBl m_Order___eq__) := by
  refine F.ok sc_Order___eq__ (fun vs H Q E h => spOf_len h) (fun cdv A outer s H vs Q E hr h => ⟨_, (pss_one (ps_ret (pe_and (pe_callB call_isiU (by rfl) fr.b_isinstance (by decide +kernel) (pa_cons (pv 1) (pa_cons (pe_glob (v := .ref CO) rfl T.gCO rfl) pa_nil))) (pe_and (pe_cmpR (op_eqD (hu64 hr) : OpR _ _ (rEqD K)) (pe_slC T.cCO T.s_own_upper (pv 0)) (pe_slC T.cCO T.s_own_upper (pv 1)) (nomark _)) (pe_one (pe_cmpR (op_eqD (hu64 hr) : OpR _ _ (rEqD K)) (pe_slC T.cCO T.s_own_lower (pv 0)) (pe_slC T.cCO T.s_own_lower (pv 1)) (nomark _))))))), ?_⟩)
  refine fn_body (X := E) (S := (aCons (rOrd K CO) (aCons (rOr K CO (rOrd K CO)) aNil))) (E' := eNil) (R := rBl) (st_par (st_par st_nil)) rfl (s_ret (e_and (e_ca (c_isiOr (tr_slt T.cCO T.yCO slr_ord) T.iCOCO) (a_cons (e_var (getS get0)) (a_cons e_clsV a_nil))) (e_and (e_op (o_eqD (da := (fun (xs : (List Str)) => PyData.tuple (xs.map PyData.str))) (db := (fun (xs : (List Str)) => PyData.tuple (xs.map PyData.str))) (dp_tup dp_str) (dp_tup dp_str)) (e_slot slg_own_upper (e_var get0)) (e_slot slg_own_upper (e_the (f := id) or_get (e_var (getS get0))))) (e_op (o_eqD (da := (fun (xs : (List Str)) => PyData.tuple (xs.map PyData.str))) (db := (fun (xs : (List Str)) => PyData.tuple (xs.map PyData.str))) (dp_tup dp_str) (dp_tup dp_str)) (e_slot slg_own_lower (e_var get0)) (e_slot slg_own_lower (e_the (f := id) or_get (e_var (getS get0)))))))) ?_
  exact h
theorem sc_Order___str__ : FnScope ["self"] ["self"] (defScope (inClass (topS 17) 20)) := ⟨rfl, rfl, rfl, by decide +kernel, rfl, by decide +kernel, by decide +kernel⟩
noncomputable def b_Order___str__ (ρ : (Od × Unit)) : M (Ct Unit Unit Str) := (M.bind (M.bind (M.bind (M.bind (M.ret ρ.1) fun (x50 : Od) => M.ret (Od.txt x50)) fun (x51 : Str) => M.bind (M.ret ()) fun (x52 : Unit) => M.ret (x51, x52)) fun (r53 : (Str × Unit)) => M.ret r53.1) fun (x54 : Str) => M.ret (.rt x54))
noncomputable def m_Order___str__ (a : (Od × Unit)) : M Str := M.fin (b_Order___str__ (a.1, ()))
theorem ok_Order___str__ (F : Fun K "__str__" "Order.__str__" (inClass (topS 17) 20) f fd) (T : OTx K mg CO) (fr : Free mg) : FnOk P w K mg base CX0 2 f fd ["self"] (spOf (aCons (rOrd K CO) aNil) rStr m_Order___str__) := by
  refine F.ok sc_Order___str__ (fun vs H Q E h => spOf_len h) (fun cdv A outer s H vs Q E hr h => ⟨_, (pss_one (ps_ret (pe_callTy SkE.call_str_str (by rfl) fr.b_str (by decide +kernel) (pa_cons (pe_slC T.cCO T.s_own_text (pv 0)) pa_nil)))), ?_⟩)
  refine fn_body (X := E) (S := (aCons (rOrd K CO) aNil)) (E' := eNil) (R := rStr) (st_par st_nil) rfl (s_ret (e_ca c_strS (a_cons (e_slot slg_own_text (e_var get0)) a_nil))) ?_
  exact h
theorem sc_Order_read : FnScope ["cls", "upper", "lower", "first", "second"] ["cls", "upper", "lower"] (defScope (inClass (topS 17) 2)) := ⟨rfl, rfl, rfl, by decide +kernel, rfl, by decide +kernel, by decide +kernel⟩
noncomputable def b_Order_read (ρ : (Unit × (Str × (Str × (Unit × (Unit × Unit)))))) : M (Ct Unit Unit Od) := (M.thn (M.bind (M.bind (M.bind (M.ret ρ.2.1) fun (x55 : Str) => M.bind (M.ret ()) fun (x56 : Unit) => M.ret (x55, x56)) fun (r57 : (Str × Unit)) => M.still (m_row_in r57)) fun (x61 : (Option (List Str))) => M.bind (M.bind (M.bind (M.ret ρ.2.2.1) fun (x58 : Str) => M.bind (M.ret ()) fun (x59 : Unit) => M.ret (x58, x59)) fun (r60 : (Str × Unit)) => M.still (m_row_in r60)) fun (x62 : (Option (List Str))) => M.ret (.nx (ρ.1, ρ.2.1, ρ.2.2.1, x61, x62, ρ.2.2.2.2.2))) fun (ρ : (Unit × (Str × (Str × ((Option (List Str)) × ((Option (List Str)) × Unit)))))) => (M.thn (M.bind (M.bind (M.bind (M.ret ρ.2.2.2.1) fun (x63 : (Option (List Str))) => M.bind (M.ret ()) fun (x64 : Unit) => M.ret (Option.isNone x63)) fun (x67 : Bool) => M.ifb x67 (M.ret true) (M.bind (M.ret ρ.2.2.2.2.1) fun (x65 : (Option (List Str))) => M.bind (M.ret ()) fun (x66 : Unit) => M.ret (Option.isNone x65))) fun (x68 : Bool) => M.ifb x68 M.none (M.ret (.nx ρ))) fun (ρ : (Unit × (Str × (Str × ((Option (List Str)) × ((Option (List Str)) × Unit)))))) => (M.bind (M.bind (M.bind (M.bind (M.ret ρ.2.2.2.1) fun (x69 : (Option (List Str))) => M.the (id x69)) fun (x73 : (List Str)) => M.bind (M.bind (M.bind (M.ret ρ.2.2.2.2.1) fun (x70 : (Option (List Str))) => M.the (id x70)) fun (x71 : (List Str)) => M.bind (M.ret ()) fun (x72 : Unit) => M.ret (x71, x72)) fun (x74 : ((List Str) × Unit)) => M.ret (x73, x74)) fun (r75 : ((List Str) × ((List Str) × Unit))) => M.need (okOrd ⟨r75.1, r75.2.1⟩) (M.ret (Od.mk r75.1 r75.2.1))) fun (x76 : Od) => M.ret (.rt x76))))
noncomputable def m_Order_read (a : (Unit × (Str × (Str × Unit)))) : M Od := M.fin (b_Order_read (a.1, (a.2.1, (a.2.2.1, ((), ((), ()))))))
theorem ok_Order_read (F : Fun K "read" "Order.read" (inClass (topS 17) 2) f fd) (G_row_in : GD P w K mg base "row_in" 4 (spOf (aCons rStr aNil) (rOpt (rTup K rStr)) m_row_in)) (G_Order : GM P w K mg base "Order" CO 4 [] (spOfI CO (aCons (rTup K rStr) (aCons (rTup K rStr) aNil)) (rObj CO (vVal rBl (vVal (rTup K rStr) (vVal (rDct Sum.inr rInt) (vVal (rTup K rStr) (vVal (rTup K (rTx K (aCons rStr (aCons rStr aNil)))) (vVal (rTup K rInt) (vVal rStr (vVal (rTup K rStr) (vVal (rDct Sum.inr rInt) vNil)))))))))) m_Order___init__)) (T : OTx K mg CO) : FnOk P w K mg base CX0 6 f fd ["cls", "upper", "lower"] (spOf (aCons (rCls CO) (aCons rStr (aCons rStr aNil))) (rOrd K CO) m_Order_read) := by
  refine F.ok sc_Order_read (fun vs H Q E h => spOf_len h) (fun cdv A outer s H vs Q E hr h => ⟨_, (pss_cons (ps_par (i := 3) (j := 4) (by rfl) sc_Order_read.nd rfl rfl (by decide) rfl rfl (pa_cons (pe_c1 G_row_in (hr.mono (by decide)) (pa_cons (pv 1) pa_nil)) (pa_cons (pe_c1 G_row_in (hr.mono (by decide)) (pa_cons (pv 2) pa_nil)) pa_nil)) (by rfl))
  (pss_cons (ps_if (PW.pt (pw_or (pt_cmpR op_isN (pv 3) pe_non (nomark _)) (pw_or1 (pt_cmpR op_isN (pv 4) pe_non (nomark _))))) (pss_one ps_never) pss_nil)
  (pss_one (ps_ret (pe_makeV (i := 0) G_Order (hr.mono (by decide)) rfl (by first | exact Or.inl rfl | exact Or.inr (Or.inl rfl) | exact Or.inr (Or.inr rfl)) (pa_cons (pv 3) (pa_cons (pv 4) pa_nil))))))), ?_⟩)
  refine fn_body (X := E) (S := (aCons (rCls CO) (aCons rStr (aCons rStr aNil)))) (E' := eNil) (R := (rOrd K CO)) (st_par (st_par (st_par (st_un (st_un st_nil))))) rfl (s_seq (s_parV (sv_e (e_call (a_cons (e_var (getS get0)) a_nil))) (sv_e (e_call (a_cons (e_var (getS (getS get0))) a_nil))) (putS (putS (putS put0))) (putS (putS (putS (putS put0)))))
  (s_seq (s_if (t_or (t_of (e_op o_isN (e_var (getS (getS (getS get0)))) e_non)) (t_of (e_op o_isN (e_var (getS (getS (getS (getS get0))))) e_non))) s_never s_nil)
  (s_ret (e_makeV get0 (e_mkOrd (a_cons (e_the (f := id) opt_get (e_var (getS (getS (getS get0))))) (a_cons (e_the (f := id) opt_get (e_var (getS (getS (getS (getS get0)))))) a_nil))))))) ?_
  exact h
theorem sc_Order_blocks : FnScope ["self", "found", "start", "end"] ["self"] (defScope (inClass (topS 17) 10)) := ⟨rfl, rfl, rfl, by decide +kernel, rfl, by decide +kernel, by decide +kernel⟩
noncomputable def b_Order_blocks (ρ : (Od × (Unit × (Unit × (Unit × Unit))))) : M (Ct Unit Unit (List Od)) := (M.thn (M.bind (M.bind (M.ret ()) fun _ => M.ret []) fun (x77 : (List Od)) => M.bind (M.ret (0 : Int)) fun (x78 : Int) => M.ret (.nx (ρ.1, x77, x78, ρ.2.2.2.1, ρ.2.2.2.2))) fun (ρ : (Od × ((List Od) × (Int × (Unit × Unit))))) => (M.thn (M.bind (M.bind (M.bind (M.bind (M.ret ρ.1) fun (x79 : Od) => M.ret (Od.plc x79)) fun (x80 : (List Int)) => M.bind (M.ret ()) fun (x81 : Unit) => M.ret (x80, x81)) fun (r82 : ((List Int) × Unit)) => M.still (m_block_ends r82)) fun (l103 : List Int) => M.forM l103 (fun (a83 : Int) (ρ : (Od × ((List Od) × (Int × (Unit × Unit))))) => (fun (ρ : (Od × ((List Od) × (Int × (Int × Unit))))) => (M.thn (M.thn (M.bind (M.bind (M.bind (M.bind (M.bind (M.ret ρ.1) fun (x84 : Od) => M.ret (Od.up x84)) fun (x87 : (List Str)) => M.bind (M.bind (M.ret ρ.2.2.1) fun (x85 : Int) => M.ret (some x85)) fun (x88 : Option Int) => M.bind (M.bind (M.ret ρ.2.2.2.1) fun (x86 : Int) => M.ret (some x86)) fun (x89 : Option Int) => M.ret (cutL x87 x88 x89)) fun (x98 : (List Str)) => M.bind (M.bind (M.bind (M.bind (M.ret ρ.1) fun (x90 : Od) => M.ret (Od.lo x90)) fun (x93 : (List Str)) => M.bind (M.bind (M.ret ρ.2.2.1) fun (x91 : Int) => M.ret (some x91)) fun (x94 : Option Int) => M.bind (M.bind (M.ret ρ.2.2.2.1) fun (x92 : Int) => M.ret (some x92)) fun (x95 : Option Int) => M.ret (cutL x93 x94 x95)) fun (x96 : (List Str)) => M.bind (M.ret ()) fun (x97 : Unit) => M.ret (x96, x97)) fun (x99 : ((List Str) × Unit)) => M.ret (x98, x99)) fun (r100 : ((List Str) × ((List Str) × Unit))) => M.need (okOrd ⟨r100.1, r100.2.1⟩) (M.ret (Od.mk r100.1 r100.2.1))) fun (x101 : Od) => M.need (ρ.2.1.length < sizeLine) (M.ret (.nx (ρ.1, ρ.2.1 ++ [x101], ρ.2.2)))) fun (ρ : (Od × ((List Od) × (Int × (Int × Unit))))) => (M.bind (M.ret ρ.2.2.2.1) fun (x102 : Int) => M.ret (.nx (ρ.1, ρ.2.1, x102, ρ.2.2.2)))) fun (ρ : (Od × ((List Od) × (Int × (Int × Unit))))) => M.ret (.nx (ρ.1, ρ.2.1, ρ.2.2.1, (), ρ.2.2.2.2)))) (ρ.1, ρ.2.1, ρ.2.2.1, a83, ρ.2.2.2.2)) ρ) fun (ρ : (Od × ((List Od) × (Int × (Unit × Unit))))) => (M.bind (M.bind (M.bind (M.ret ρ.2.1) fun (x104 : (List Od)) => M.bind (M.ret ()) fun (x105 : Unit) => M.ret (x104, x105)) fun (r106 : ((List Od) × Unit)) => M.ret r106.1) fun (x107 : (List Od)) => M.ret (.rt x107))))
noncomputable def m_Order_blocks (a : (Od × Unit)) : M (List Od) := M.fin (b_Order_blocks (a.1, ((), ((), ((), ())))))
theorem ok_Order_blocks (F : Fun K "blocks" "Order.blocks" (inClass (topS 17) 10) f fd) (T : OTx K mg CO) (G_block_ends : GD P w K mg base "block_ends" 2 (spOf (aCons (rTup K rInt) aNil) (rLs rInt) m_block_ends)) (G_Order : GM P w K mg base "Order" CO 4 [] (spOfI CO (aCons (rTup K rStr) (aCons (rTup K rStr) aNil)) (rObj CO (vVal rBl (vVal (rTup K rStr) (vVal (rDct Sum.inr rInt) (vVal (rTup K rStr) (vVal (rTup K (rTx K (aCons rStr (aCons rStr aNil)))) (vVal (rTup K rInt) (vVal rStr (vVal (rTup K rStr) (vVal (rDct Sum.inr rInt) vNil)))))))))) m_Order___init__)) (fr : Free mg) : FnOk P w K mg base CX0 6 f fd ["self"] (spOf (aCons (rOrd K CO) aNil) (rTup K (rOrd K CO)) m_Order_blocks) := by
  refine F.ok sc_Order_blocks (fun vs H Q E h => spOf_len h) (fun cdv A outer s H vs Q E hr h => ⟨_, (pss_cons (ps_par (i := 1) (j := 2) (by rfl) sc_Order_blocks.nd rfl rfl (by decide) rfl rfl (pa_cons (pe_lst pa_nil) (pa_cons pe_int pa_nil)) (by rfl))
  (pss_cons (ps_for PassesOwn.never rfl (pi_list (pe_c1 G_block_ends (hr.mono (by decide)) (pa_cons (pe_slC T.cCO T.s_own_places (pv 0)) pa_nil))) (pg_name (i := 3) sc_Order_blocks.nd rfl (by first | exact Or.inl rfl | exact Or.inr rfl)) (pss_cons (ps_expr (pe_bm PySem.F.plainAttrs_list PySem.F.slot_list_append PySem.F.type_list_append mt_append (pv 1) (pa_cons (pe_m1 G_Order (hr.mono (by decide)) (pa_cons (pe_slice sl_tupA (pe_slC T.cCO T.s_own_upper (pv 0)) (po_some (pv 2)) (po_some (pv 3))) (pa_cons (pe_slice sl_tupA (pe_slC T.cCO T.s_own_lower (pv 0)) (po_some (pv 2)) (po_some (pv 3))) pa_nil))) pa_nil)))
  (pss_one (ps_set (i := 2) sc_Order_blocks.nd rfl (by first | exact Or.inl rfl | exact Or.inr rfl) (pv 3)))))
  (pss_one (ps_ret (pe_callTy call_tuple_of (by rfl) fr.b_tuple (by decide +kernel) (pa_cons (pv 1) pa_nil)))))), ?_⟩)
  refine fn_body (X := E) (S := (aCons (rOrd K CO) aNil)) (E' := eNil) (R := (rTup K (rOrd K CO))) (st_par (st_un (st_un (st_un st_nil)))) rfl (s_seq (s_parV (sv_n (n_lst (Ra := (rOrd K CO)) hom_nil a_nil (le_n 0))) (sv_e e_int) (putS put0) (putS (putS put0)))
  (s_seq (s_for (i_ls (e_call (a_cons (e_slot slg_own_places (e_var get0)) a_nil))) (g_name (putS (putS (putS put0)))) (s_post (s_seq (s_append (modS mod0) (e_mkOrd (a_cons (e_sl sl_T (e_slot slg_own_upper (e_var get0)) (so_some (e_var (getS (getS get0)))) (so_some (e_var (getS (getS (getS get0)))))) (a_cons (e_sl sl_T (e_slot slg_own_lower (e_var get0)) (so_some (e_var (getS (getS get0)))) (so_some (e_var (getS (getS (getS get0)))))) a_nil))))
  (s_asg (e_var (getS (getS (getS get0)))) (g_name (putS (putS put0))))) (wk_fg (fg_keep (fg_keep (fg_keep (fg_un fg_nil)))))))
  (s_pre (wk_fz (fzS fz0)) (s_ret (e_ca c_tupL (a_cons (e_var (getS get0)) a_nil)))))) ?_
  exact h





theorem sc_is_naming_of : FnScope ["order", "value", "one", "found", "name"] ["order", "value"] (defScope (topS 18)) := ⟨rfl, rfl, rfl, by decide +kernel, rfl, by decide +kernel, by decide +kernel⟩
noncomputable def b_is_naming_of (ρ : (Od × ((List (Str × Str)) × (Unit × (Unit × (Unit × Unit)))))) : M (Ct Unit Unit Bool) := (M.thn (M.bind (M.bind (M.bind (M.bind (M.bind (M.ret ρ.2.1) fun (x110 : (List (Str × Str))) => M.bind (M.bind (M.ret ()) fun (x108 : Unit) => M.bind (M.ret ()) fun (x109 : Unit) => M.ret (x108, x109)) fun (x111 : (Unit × Unit)) => M.ret (x110, x111)) fun (r112 : ((List (Str × Str)) × (Unit × Unit))) => M.ret true) fun (x113 : Bool) => M.ret (!x113)) fun (x137 : Bool) => M.ifb x137 (M.ret true) (M.bind (M.bind (M.bind (M.bind (M.ret ρ.2.1) fun (x114 : (List (Str × Str))) => M.bind (M.ret ()) fun (x115 : Unit) => M.ret (x114, x115)) fun (r116 : ((List (Str × Str)) × Unit)) => M.ret (r116.1.length : Int)) fun (x121 : Int) => M.bind (M.bind (M.bind (M.bind (M.ret ρ.1) fun (x117 : Od) => M.ret (Od.up x117)) fun (x118 : (List Str)) => M.bind (M.ret ()) fun (x119 : Unit) => M.ret (x118, x119)) fun (r120 : ((List Str) × Unit)) => M.ret (r120.1.length : Int)) fun (x122 : Int) => M.ret (!decide (x121 = x122))) fun (x136 : Bool) => M.ifb x136 (M.ret true) (M.bind (M.bind (M.bind (M.bind (M.bind (M.ret ρ.2.1) fun (x123 : (List (Str × Str))) => M.ret (x123.map (·.1))) fun (l128 : List Str) => M.need (l128.length ≤ 1000000) (M.lcM l128 fun (a129 : Str) => M.bind ((fun (ρ : (Od × ((List (Str × Str)) × (Str × (Unit × (Unit × Unit)))))) => (M.ret true)) (ρ.1, ρ.2.1, a129, ρ.2.2.2)) fun (b130 : Bool) => M.ifb b130 (M.bind ((fun (ρ : (Od × ((List (Str × Str)) × (Str × (Unit × (Unit × Unit)))))) => (M.bind (M.bind (M.ret ρ.2.2.1) fun (x124 : Str) => M.ret (some x124)) fun (x125 : (Option Str)) => M.bind (M.ret ρ.1) fun (x126 : Od) => M.still (m_Order___contains__ (x126, x125, ())))) (ρ.1, ρ.2.1, a129, ρ.2.2.2)) fun (y131 : Bool) => M.ret (some y131)) (M.ret none))) fun (x132 : (List Bool)) => M.bind (M.ret ()) fun (x133 : Unit) => M.ret (x132, x133)) fun (r134 : ((List Bool) × Unit)) => M.ret (r134.1.all id)) fun (x135 : Bool) => M.ret (!x135)))) fun (x139 : Bool) => M.ifb x139 (M.bind (M.ret false) fun (x138 : Bool) => M.ret (.rt x138)) (M.ret (.nx ρ))) fun (ρ : (Od × ((List (Str × Str)) × (Unit × (Unit × (Unit × Unit)))))) => (M.thn (M.bind (M.bind (M.bind (M.ret ρ.2.1) fun (x140 : (List (Str × Str))) => M.ret (x140.map (·.1))) fun (l144 : List Str) => M.need (l144.length ≤ 1000000) (M.lcM l144 fun (a145 : Str) => M.bind ((fun (ρ : (Od × ((List (Str × Str)) × (Str × (Unit × (Unit × Unit)))))) => (M.ret true)) (ρ.1, ρ.2.1, a145, ρ.2.2.2)) fun (b146 : Bool) => M.ifb b146 (M.bind ((fun (ρ : (Od × ((List (Str × Str)) × (Str × (Unit × (Unit × Unit)))))) => (M.bind (M.ret ρ.2.1) fun (x141 : (List (Str × Str))) => M.bind (M.ret ρ.2.2.1) fun (x142 : Str) => M.the (dget x141 x142))) (ρ.1, ρ.2.1, a145, ρ.2.2.2)) fun (y147 : Str) => M.ret (some y147)) (M.ret none))) fun (x148 : (List Str)) => M.ret (.nx (ρ.1, ρ.2.1, ρ.2.2.1, x148, ρ.2.2.2.2))) fun (ρ : (Od × ((List (Str × Str)) × (Unit × ((List Str) × (Unit × Unit)))))) => (M.bind (M.bind (M.bind (M.bind (M.bind (M.ret ρ.2.2.2.1) fun (l153 : List Str) => M.need (l153.length ≤ 1000000) (M.lcM l153 fun (a154 : Str) => M.bind ((fun (ρ : (Od × ((List (Str × Str)) × (Unit × ((List Str) × (Str × Unit)))))) => (M.ret true)) (ρ.1, ρ.2.1, ρ.2.2.1, ρ.2.2.2.1, a154, ρ.2.2.2.2.2)) fun (b155 : Bool) => M.ifb b155 (M.bind ((fun (ρ : (Od × ((List (Str × Str)) × (Unit × ((List Str) × (Str × Unit)))))) => (M.bind (M.bind (M.ret ρ.2.2.2.2.1) fun (x149 : Str) => M.bind (M.ret ()) fun (x150 : Unit) => M.ret (x149, x150)) fun (r151 : (Str × Unit)) => M.still (m_is_name r151))) (ρ.1, ρ.2.1, ρ.2.2.1, ρ.2.2.2.1, a154, ρ.2.2.2.2.2)) fun (y156 : Bool) => M.ret (some y156)) (M.ret none))) fun (x157 : (List Bool)) => M.bind (M.ret ()) fun (x158 : Unit) => M.ret (x157, x158)) fun (r159 : ((List Bool) × Unit)) => M.ret (r159.1.all id)) fun (x174 : Bool) => M.ifb x174 (M.bind (M.bind (M.bind (M.bind (M.ret ρ.2.2.2.1) fun (l160 : List Str) => M.need (l160.length ≤ 1000000) (M.bind (M.lcM l160 fun (a161 : Str) => M.bind ((fun (ρ : (Od × ((List (Str × Str)) × (Unit × ((List Str) × (Str × Unit)))))) => (M.ret true)) (ρ.1, ρ.2.1, ρ.2.2.1, ρ.2.2.2.1, a161, ρ.2.2.2.2.2)) fun (b162 : Bool) => M.ifb b162 (M.bind ((fun (ρ : (Od × ((List (Str × Str)) × (Unit × ((List Str) × (Str × Unit)))))) => (M.ret ρ.2.2.2.2.1)) (ρ.1, ρ.2.1, ρ.2.2.1, ρ.2.2.2.1, a161, ρ.2.2.2.2.2)) fun (y163 : Str) => M.bind ((fun (ρ : (Od × ((List (Str × Str)) × (Unit × ((List Str) × (Str × Unit)))))) => (M.ret true)) (ρ.1, ρ.2.1, ρ.2.2.1, ρ.2.2.2.1, a161, ρ.2.2.2.2.2)) fun (z164 : Bool) => M.ret (some (y163, z164))) (M.ret none)) fun (p165 : List (Str × Bool)) => M.ret (dmerge [] p165))) fun (x166 : (List (Str × Bool))) => M.bind (M.ret ()) fun (x167 : Unit) => M.ret (x166, x167)) fun (r168 : ((List (Str × Bool)) × Unit)) => M.ret (r168.1.length : Int)) fun (x172 : Int) => M.bind (M.bind (M.bind (M.ret ρ.2.2.2.1) fun (x169 : (List Str)) => M.bind (M.ret ()) fun (x170 : Unit) => M.ret (x169, x170)) fun (r171 : ((List Str) × Unit)) => M.ret (r171.1.length : Int)) fun (x173 : Int) => M.ret (decide (x172 = x173))) (M.ret false)) fun (x175 : Bool) => M.ret (.rt x175))))
noncomputable def m_is_naming_of (a : (Od × ((List (Str × Str)) × Unit))) : M Bool := M.fin (b_is_naming_of (a.1, (a.2.1, ((), ((), ((), ()))))))
theorem ok_is_naming_of (F : Fun K "is_naming_of" "is_naming_of" (topS 18) f fd) (fr : Free mg) (T : OTx K mg CO) (Q_Order_contains : GQ P w K mg base "__contains__" CO 2 (spOf (aCons (rOrd K CO) (aCons (rSx K) aNil)) rBl m_Order___contains__)) (G_is_name : GD P w K mg base "is_name" 2 (spOf (aCons rStr aNil) rBl m_is_name)) : FnOk P w K mg base CX0 3 f fd ["order", "value"] (spOf (aCons (rOrd K CO) (aCons (rDct Sum.inr rStr) aNil)) rBl m_is_naming_of) := by
  refine F.ok sc_is_naming_of (fun vs H Q E h => spOf_len h) (fun cdv A outer s H vs Q E hr h => ⟨_, (pss_cons (ps_if (PW.pt (pw_or (pt_not (pt_val (pe_callB call_isiU (by rfl) fr.b_isinstance (by decide +kernel) (pa_cons (pv 1) (pa_cons (pe_bltn (v := .ty "dict") (by rfl) fr.b_dict (by decide +kernel) rfl) pa_nil))))) (pw_or (pt_cmpR op_ne (pe_callB call_lenDR (by rfl) fr.b_len (by decide +kernel) (pa_cons (pv 1) pa_nil)) (pe_callB call_len (by rfl) fr.b_len (by decide +kernel) (pa_cons (pe_slC T.cCO T.s_own_upper (pv 0)) pa_nil)) (nomark _)) (pw_or1 (pt_not (pt_val (pe_callB (cr_all rfl) (by rfl) fr.b_all (by decide +kernel) (pa_cons (pe_lc (own := [("one", 2)]) (by rfl) sc_is_naming_of.nd  (pi_keys (pv 1)) (blkOk_by (own := [("one", 2)]) (N := ["order", "value", "one", "found", "name"]) (sc := defScope (topS 18)) (by decide +kernel)) (fun _ _ _ _ _ => (pg_name (i := 2) sc_is_naming_of.nd rfl (by first | exact Or.inl rfl | exact Or.inr rfl))) (fun _ _ _ _ _ => pts_nil) (fun _ _ _ _ _ => (pe_cmpR (op_inN Q_Order_contains (hr.mono (by decide))) (pv 2) (pv 0) (by rfl)))) pa_nil)))))))) (pss_one (ps_ret pe_bl)) pss_nil)
  (pss_cons (ps_setLc (i := 3) (own := [("one", 2)]) (by rfl) sc_is_naming_of.nd rfl rfl (sw_true rfl rfl rfl (by decide +kernel)) (pi_keys (pv 1)) (blkOk_by (own := [("one", 2)]) (N := ["order", "value", "one", "found", "name"]) (sc := defScope (topS 18)) (by decide +kernel)) (fun _ _ _ _ _ => (pg_name (i := 2) sc_is_naming_of.nd rfl (by first | exact Or.inl rfl | exact Or.inr rfl))) (fun _ _ _ _ _ => pts_nil) (fun _ _ _ _ _ => (pe_dget (hu_of hr) (pv 1) (pv 2) (fun _ _ => rfl))))
  (pss_one (ps_ret (pe_and (pe_callB (cr_all rfl) (by rfl) fr.b_all (by decide +kernel) (pa_cons (pe_lc (own := [("name", 4)]) (by rfl) sc_is_naming_of.nd  (pi_list (pv 3)) (blkOk_by (own := [("name", 4)]) (N := ["order", "value", "one", "found", "name"]) (sc := defScope (topS 18)) (by decide +kernel)) (fun _ _ _ _ _ => (pg_name (i := 4) sc_is_naming_of.nd rfl (by first | exact Or.inl rfl | exact Or.inr rfl))) (fun _ _ _ _ _ => pts_nil) (fun _ _ _ _ _ => (pe_c1 G_is_name (hr.mono (by decide)) (pa_cons (pv 4) pa_nil)))) pa_nil)) (pe_one (pe_cmpR op_eq (pe_callB call_lenDR (by rfl) fr.b_len (by decide +kernel) (pa_cons (pe_lk (pe_dc (own := [("name", 4)]) (by rfl) sc_is_naming_of.nd  (pi_list (pv 3)) (blkOk_by (own := [("name", 4)]) (N := ["order", "value", "one", "found", "name"]) (sc := defScope (topS 18)) (by decide +kernel)) (fun _ _ _ _ _ => (pg_name (i := 4) sc_is_naming_of.nd rfl (by first | exact Or.inl rfl | exact Or.inr rfl))) (fun _ _ _ _ _ => pts_nil) (fun _ _ _ _ _ => (pv 4)) (fun _ _ _ _ _ => pe_bl))) pa_nil)) (pe_callB call_len (by rfl) fr.b_len (by decide +kernel) (pa_cons (pv 3) pa_nil)) (nomark _)))))))), ?_⟩)
  refine fn_body (X := E) (S := (aCons (rOrd K CO) (aCons (rDct Sum.inr rStr) aNil))) (E' := eNil) (R := rBl) (st_par (st_par (st_un (st_un (st_un st_nil))))) rfl (s_seq (s_if (t_or (t_not (t_b (e_ca (c_isiT (b := true) tr_dct (kit_ty (by decide +kernel))) (a_cons (e_var (getS get0)) (a_cons e_tyV a_nil))))) (t_or (t_of (e_op (o_ne sc_int) (e_ca c_lenD (a_cons (e_var (getS get0)) a_nil)) (e_ca (c_len len_tup) (a_cons (e_slot slg_own_upper (e_var get0)) a_nil)))) (t_not (t_b (e_ca c_all (a_cons (SN.se (n_lc (i_keys ky_str2 (e_var (getS get0))) (gw_name (putS (putS put0))) t_yes (e_op (o_inN slr_ord) (e_coeX sx_some (e_var (getS (getS get0)))) (e_var get0)))) a_nil)))))) (s_ret e_bl) s_nil)
  (s_seq (s_asg (SN.se (n_lc (i_keys ky_str2 (e_var (getS get0))) (gw_name (putS (putS put0))) t_yes (e_dget ky_str (e_var (getS get0)) (e_var (getS (getS get0)))))) (g_name (putS (putS (putS put0)))))
  (s_ret (e_and (e_ca c_all (a_cons (SN.se (n_lc (i_ls (e_var (getS (getS (getS get0))))) (gw_name (putS (putS (putS (putS put0))))) t_yes (e_call (a_cons (e_var (getS (getS (getS (getS get0))))) a_nil)))) a_nil)) (e_op (o_eq sc_int) (e_ca c_lenD (a_cons (e_dc ky_str (i_ls (e_var (getS (getS (getS get0))))) (gw_name (putS (putS (putS (putS put0))))) t_yes (e_var (getS (getS (getS (getS get0))))) e_bl) a_nil)) (e_ca (c_len len_ls) (a_cons (e_var (getS (getS (getS get0)))) a_nil))))))) ?_
  exact h
theorem sc_Order_renamed : FnScope ["self", "names", "name"] ["self", "names"] (defScope (inClass (topS 17) 14)) := ⟨rfl, rfl, rfl, by decide +kernel, rfl, by decide +kernel, by decide +kernel⟩
noncomputable def b_Order_renamed (ρ : (Od × ((List (Str × Str)) × (Unit × Unit)))) : M (Ct Unit Unit Od) := (M.thn (M.bind (M.bind (M.bind (M.bind (M.ret ρ.1) fun (x178 : Od) => M.bind (M.bind (M.ret ρ.2.1) fun (x176 : (List (Str × Str))) => M.bind (M.ret ()) fun (x177 : Unit) => M.ret (x176, x177)) fun (x179 : ((List (Str × Str)) × Unit)) => M.ret (x178, x179)) fun (r180 : (Od × ((List (Str × Str)) × Unit))) => M.still (m_is_naming_of r180)) fun (x181 : Bool) => M.ret (!x181)) fun (x182 : Bool) => M.ifb x182 M.none (M.ret (.nx ρ))) fun (ρ : (Od × ((List (Str × Str)) × (Unit × Unit)))) => (M.bind (M.bind (M.bind (M.bind (M.bind (M.bind (M.bind (M.ret ρ.1) fun (x183 : Od) => M.ret (Od.up x183)) fun (l187 : List Str) => M.need (l187.length ≤ 1000000) (M.lcM l187 fun (a188 : Str) => M.bind ((fun (ρ : (Od × ((List (Str × Str)) × (Str × Unit)))) => (M.ret true)) (ρ.1, ρ.2.1, a188, ρ.2.2.2)) fun (b189 : Bool) => M.ifb b189 (M.bind ((fun (ρ : (Od × ((List (Str × Str)) × (Str × Unit)))) => (M.bind (M.ret ρ.2.1) fun (x184 : (List (Str × Str))) => M.bind (M.ret ρ.2.2.1) fun (x185 : Str) => M.the (dget x184 x185))) (ρ.1, ρ.2.1, a188, ρ.2.2.2)) fun (y190 : Str) => M.ret (some y190)) (M.ret none))) fun (x191 : (List Str)) => M.bind (M.ret ()) fun (x192 : Unit) => M.ret (x191, x192)) fun (r193 : ((List Str) × Unit)) => M.ret r193.1) fun (x207 : (List Str)) => M.bind (M.bind (M.bind (M.bind (M.bind (M.bind (M.ret ρ.1) fun (x194 : Od) => M.ret (Od.lo x194)) fun (l198 : List Str) => M.need (l198.length ≤ 1000000) (M.lcM l198 fun (a199 : Str) => M.bind ((fun (ρ : (Od × ((List (Str × Str)) × (Str × Unit)))) => (M.ret true)) (ρ.1, ρ.2.1, a199, ρ.2.2.2)) fun (b200 : Bool) => M.ifb b200 (M.bind ((fun (ρ : (Od × ((List (Str × Str)) × (Str × Unit)))) => (M.bind (M.ret ρ.2.1) fun (x195 : (List (Str × Str))) => M.bind (M.ret ρ.2.2.1) fun (x196 : Str) => M.the (dget x195 x196))) (ρ.1, ρ.2.1, a199, ρ.2.2.2)) fun (y201 : Str) => M.ret (some y201)) (M.ret none))) fun (x202 : (List Str)) => M.bind (M.ret ()) fun (x203 : Unit) => M.ret (x202, x203)) fun (r204 : ((List Str) × Unit)) => M.ret r204.1) fun (x205 : (List Str)) => M.bind (M.ret ()) fun (x206 : Unit) => M.ret (x205, x206)) fun (x208 : ((List Str) × Unit)) => M.ret (x207, x208)) fun (r209 : ((List Str) × ((List Str) × Unit))) => M.need (okOrd ⟨r209.1, r209.2.1⟩) (M.ret (Od.mk r209.1 r209.2.1))) fun (x210 : Od) => M.ret (.rt x210)))
noncomputable def m_Order_renamed (a : (Od × ((List (Str × Str)) × Unit))) : M Od := M.fin (b_Order_renamed (a.1, (a.2.1, ((), ()))))
theorem ok_Order_renamed (F : Fun K "renamed" "Order.renamed" (inClass (topS 17) 14) f fd) (G_is_naming_of : GD P w K mg base "is_naming_of" 3 (spOf (aCons (rOrd K CO) (aCons (rDct Sum.inr rStr) aNil)) rBl m_is_naming_of)) (T : OTx K mg CO) (fr : Free mg) (G_Order : GM P w K mg base "Order" CO 4 [] (spOfI CO (aCons (rTup K rStr) (aCons (rTup K rStr) aNil)) (rObj CO (vVal rBl (vVal (rTup K rStr) (vVal (rDct Sum.inr rInt) (vVal (rTup K rStr) (vVal (rTup K (rTx K (aCons rStr (aCons rStr aNil)))) (vVal (rTup K rInt) (vVal rStr (vVal (rTup K rStr) (vVal (rDct Sum.inr rInt) vNil)))))))))) m_Order___init__)) : FnOk P w K mg base CX0 6 f fd ["self", "names"] (spOf (aCons (rOrd K CO) (aCons (rDct Sum.inr rStr) aNil)) (rOrd K CO) m_Order_renamed) := by
  refine F.ok sc_Order_renamed (fun vs H Q E h => spOf_len h) (fun cdv A outer s H vs Q E hr h => ⟨_, (pss_cons (ps_if (pt_not (pt_val (pe_c1 G_is_naming_of (hr.mono (by decide)) (pa_cons (pv 0) (pa_cons (pv 1) pa_nil))))) (pss_one ps_never) pss_nil)
  (pss_one (ps_ret (pe_m1 G_Order (hr.mono (by decide)) (pa_cons (pe_callTy call_tuple_of (by rfl) fr.b_tuple (by decide +kernel) (pa_cons (pe_lc (own := [("name", 2)]) (by rfl) sc_Order_renamed.nd  (pi_tup (pe_slC T.cCO T.s_own_upper (pv 0))) (blkOk_by (own := [("name", 2)]) (N := ["self", "names", "name"]) (sc := defScope (inClass (topS 17) 14)) (by decide +kernel)) (fun _ _ _ _ _ => (pg_name (i := 2) sc_Order_renamed.nd rfl (by first | exact Or.inl rfl | exact Or.inr rfl))) (fun _ _ _ _ _ => pts_nil) (fun _ _ _ _ _ => (pe_dget (hu_of hr) (pv 1) (pv 2) (fun _ _ => rfl)))) pa_nil)) (pa_cons (pe_callTy call_tuple_of (by rfl) fr.b_tuple (by decide +kernel) (pa_cons (pe_lc (own := [("name", 2)]) (by rfl) sc_Order_renamed.nd  (pi_tup (pe_slC T.cCO T.s_own_lower (pv 0))) (blkOk_by (own := [("name", 2)]) (N := ["self", "names", "name"]) (sc := defScope (inClass (topS 17) 14)) (by decide +kernel)) (fun _ _ _ _ _ => (pg_name (i := 2) sc_Order_renamed.nd rfl (by first | exact Or.inl rfl | exact Or.inr rfl))) (fun _ _ _ _ _ => pts_nil) (fun _ _ _ _ _ => (pe_dget (hu_of hr) (pv 1) (pv 2) (fun _ _ => rfl)))) pa_nil)) pa_nil)))))), ?_⟩)
  refine fn_body (X := E) (S := (aCons (rOrd K CO) (aCons (rDct Sum.inr rStr) aNil))) (E' := eNil) (R := (rOrd K CO)) (st_par (st_par (st_un st_nil))) rfl (s_seq (s_if (t_not (t_b (e_call (a_cons (e_var get0) (a_cons (e_var (getS get0)) a_nil))))) s_never s_nil)
  (s_ret (e_mkOrd (a_cons (e_ca c_tupL (a_cons (SN.se (n_lc (i_tup (e_slot slg_own_upper (e_var get0))) (gw_name (putS (putS put0))) t_yes (e_dget ky_str (e_var (getS get0)) (e_var (getS (getS get0)))))) a_nil)) (a_cons (e_ca c_tupL (a_cons (SN.se (n_lc (i_tup (e_slot slg_own_lower (e_var get0))) (gw_name (putS (putS put0))) t_yes (e_dget ky_str (e_var (getS get0)) (e_var (getS (getS get0)))))) a_nil)) a_nil))))) ?_
  exact h

end
end PF2

set_option Elab.async false
set_option linter.all false
set_option maxRecDepth 100000
set_option maxHeartbeats 400000
set_option exponentiation.threshold 20000
namespace PF2
open PF PySem PySem.Spec PyProof.Rows L2 SlX TL
/-! ### rows, no program in sight -/
theorem perm_sub {α : Type} [DecidableEq α] : ∀ {a b : List α}, a.Nodup → (∀ x ∈ a, x ∈ b) → b.length ≤ a.length → a.Perm b
  | [], b, _, _, hl => by rw [List.length_eq_zero_iff.mp (Nat.le_zero.mp hl)]
  | x :: a, b, nd, h, hl => by
    have hx := h x (List.mem_cons_self ..)
    have nd' := List.nodup_cons.mp nd
    refine List.Perm.trans (List.Perm.cons x (perm_sub (b := b.erase x) nd'.2 (fun y hy => ?_) ?_)) (List.perm_cons_erase hx).symm
    · exact (List.mem_erase_of_ne (fun e => nd'.1 (by rw [← e]; exact hy))).mpr (h y (List.mem_cons_of_mem _ hy))
    · rw [List.length_erase_of_mem hx]; rw [List.length_cons] at hl; omega
theorem idx_take {α : Type} [DecidableEq α] : ∀ {l : List α} {x : α} {i : Nat}, x ∈ l.take i ↔ x ∈ l ∧ l.idxOf x < i
  | [], x, i => by simp
  | y :: l, x, 0 => by simp
  | y :: l, x, i + 1 => by
    rw [List.take_succ_cons, List.mem_cons, List.mem_cons, idx_take (l := l)]
    by_cases e : y = x
    · subst e; simp [List.idxOf_cons_self]
    · have e' : ¬ x = y := fun z => e z.symm
      rw [List.idxOf_cons, show (y == x) = false from beq_eq_false_iff_ne.mpr e]
      simp [e']
theorem idx_get {α : Type} [DecidableEq α] {l : List α} {x : α} (h : x ∈ l) : l[l.idxOf x]? = some x := by
  have hl := List.idxOf_lt_length_iff.mpr h
  rw [List.getElem?_eq_getElem hl, List.getElem_idxOf hl]
theorem nd_idx {α : Type} [DecidableEq α] {l : List α} (nd : l.Nodup) {i : Nat} {x : α} (h : l[i]? = some x) : l.idxOf x = i := by
  obtain ⟨hi, e⟩ := List.getElem?_eq_some_iff.mp h
  have hx : x ∈ l := e ▸ List.getElem_mem hi
  have hl := List.idxOf_lt_length_iff.mpr hx
  exact (List.getElem_inj (h₀ := hl) (h₁ := hi) nd).mp ((List.getElem_idxOf hl).trans e.symm)
theorem nd_take {α : Type} {l : List α} (nd : l.Nodup) (i : Nat) : (l.take i).Nodup := List.Sublist.nodup (List.take_sublist i l) nd
theorem nd_drop {α : Type} {l : List α} (nd : l.Nodup) (i : Nat) : (l.drop i).Nodup := List.Sublist.nodup (List.drop_sublist i l) nd
theorem cutL_mid {α : Type} (xs : List α) (i j : Nat) (hij : i ≤ j) (hj : j ≤ xs.length) : cutL xs (some (i : Int)) (some (j : Int)) = (xs.take j).drop i := by
  unfold cutL
  rw [HT.sIx_nat, HT.sIx_nat, Nat.min_eq_left hj, Nat.min_eq_left (Nat.le_trans hij hj), List.drop_take]
theorem drop_take_mem {α : Type} {l : List α} {i j : Nat} {x : α} (h : x ∈ (l.take j).drop i) : x ∈ l := List.mem_of_mem_take (List.mem_of_mem_drop h)
namespace Od
def cutB (o : Od) (i : Nat) : Bool := decide (∀ x ∈ o.up.take i, x ∈ o.lo.take i)
def piece (o : Od) (i j : Nat) : Od := ⟨(o.up.take j).drop i, (o.lo.take j).drop i⟩
def endsF (o : Od) : Nat → Nat → List Nat
  | _, 0 => []
  | i, k + 1 => if o.cutB (i + 1) = true then (i + 1) :: endsF o (i + 1) k else endsF o (i + 1) k
def ends (o : Od) : List Nat := o.endsF 0 o.up.length
def cuts (o : Od) : List Nat → Nat → List Od
  | [], _ => []
  | e :: es, s => o.piece s e :: cuts o es e
/-- the blocks -/
def blks (o : Od) : List Od := o.cuts o.ends 0
end Od
section
variable {o : Od}
theorem len_eq (h : okOrd o) : o.lo.length = o.up.length := h.pm.length_eq
theorem cut_perm (h : okOrd o) {i : Nat} (c : o.cutB i = true) : (o.up.take i).Perm (o.lo.take i) :=
  perm_sub (nd_take h.up.nd i) (of_decide_eq_true c) (by rw [List.length_take, List.length_take, len_eq h]; omega)
theorem cut_zero : o.cutB 0 = true := by simp [Od.cutB]
theorem take_split {α : Type} (l : List α) {s e : Nat} (h : s ≤ e) : l.take e = l.take s ++ (l.take e).drop s := by
  have := (List.take_append_drop s (l.take e)).symm
  rw [List.take_take, Nat.min_eq_left h] at this
  exact this
theorem piece_perm (h : okOrd o) {s e : Nat} (hs : s ≤ e) (c1 : o.cutB s = true) (c2 : o.cutB e = true) : (o.piece s e).lo.Perm (o.piece s e).up := by
  have p1 := cut_perm h c1
  have p2 := cut_perm h c2
  rw [take_split o.up hs, take_split o.lo hs] at p2
  have := (List.perm_append_left_iff _).mp ((List.Perm.append_right _ p1.symm).trans p2)
  exact this.symm
theorem piece_set (h : okOrd o) {s e : Nat} (hs : s ≤ e) (c1 : o.cutB s = true) : setEqB (o.piece s e).up (o.piece s e).lo = o.cutB e := by
  refine Bool.eq_iff_iff.mpr ?_
  rw [setEqB_iff]
  constructor
  · intro k
    refine decide_eq_true fun x hx => ?_
    rw [take_split o.up hs] at hx
    rw [take_split o.lo hs]
    rcases List.mem_append.mp hx with z | z
    · exact List.mem_append_left _ (of_decide_eq_true c1 x z)
    · exact List.mem_append_right _ ((k x).mp z)
  · intro c x
    exact (piece_perm h hs c1 c).mem_iff.symm
theorem piece_len {s e : Nat} (he : e ≤ o.up.length) : (o.piece s e).up.length = e - s := by
  show ((o.up.take e).drop s).length = _
  rw [List.length_drop, List.length_take, Nat.min_eq_left he]
theorem piece_ok (h : okOrd o) {s e : Nat} (hs : s < e) (he : e ≤ o.up.length) (c1 : o.cutB s = true) (c2 : o.cutB e = true) : okOrd (o.piece s e) := by
  have hp := piece_perm h (Nat.le_of_lt hs) c1 c2
  have hl := piece_len (o := o) (s := s) he
  have h40 := h.up.n40
  exact ⟨⟨by omega, by omega, fun x hx => h.up.nm x (drop_take_mem hx), nd_drop (nd_take h.up.nd e) s⟩,
    ⟨by rw [hp.length_eq]; omega, by rw [hp.length_eq]; omega, fun x hx => h.lo.nm x (drop_take_mem hx), nd_drop (nd_take h.lo.nd e) s⟩, hp⟩
theorem cuts_ok (h : okOrd o) : ∀ (k i s : Nat), s ≤ i → i + k ≤ o.up.length → o.cutB s = true → ∀ b ∈ o.cuts (o.endsF i k) s, okOrd b
  | 0, i, s, _, _, _, b, hb => by simp [Od.endsF, Od.cuts] at hb
  | k + 1, i, s, hs, hl, c, b, hb => by
    unfold Od.endsF at hb
    by_cases z : o.cutB (i + 1) = true
    · rw [if_pos z] at hb
      rcases List.mem_cons.mp hb with e | hb
      · rw [e]; exact piece_ok h (by omega) (by omega) c z
      · exact cuts_ok h k (i + 1) (i + 1) (Nat.le_refl _) (by omega) z b hb
    · rw [if_neg z] at hb
      exact cuts_ok h k (i + 1) s (by omega) (by omega) c b hb
theorem blks_ok (h : okOrd o) : ∀ b ∈ o.blks, okOrd b := cuts_ok h _ 0 0 (Nat.le_refl _) (by omega) cut_zero
theorem cuts_len (o : Od) : ∀ (es : List Nat) (s : Nat), (o.cuts es s).length = es.length
  | [], _ => rfl
  | e :: es, s => by rw [Od.cuts, List.length_cons, List.length_cons, cuts_len o es]
theorem endsF_len (o : Od) : ∀ (k i : Nat), (o.endsF i k).length ≤ k
  | 0, i => Nat.le_refl _
  | k + 1, i => by
    unfold Od.endsF
    have := endsF_len o k (i + 1)
    by_cases z : o.cutB (i + 1) = true
    · rw [if_pos z, List.length_cons]; omega
    · rw [if_neg z]; omega
theorem endsF_mem (o : Od) : ∀ (k i e : Nat), e ∈ o.endsF i k → i < e ∧ e ≤ i + k
  | 0, i, e, h => by simp [Od.endsF] at h
  | k + 1, i, e, h => by
    unfold Od.endsF at h
    by_cases z : o.cutB (i + 1) = true
    · rw [if_pos z] at h
      rcases List.mem_cons.mp h with q | h
      · omega
      · have := endsF_mem o k (i + 1) e h; omega
    · rw [if_neg z] at h
      have := endsF_mem o k (i + 1) e h; omega
theorem take_next {α : Type} {l : List α} {i : Nat} (h : i < l.length) : l.take (i + 1) = l.take i ++ [l[i]] := by rw [List.take_succ, List.getElem?_eq_getElem h]; rfl
theorem bgo_ends (h : okOrd o) : ∀ (k i : Nat) (m : Int), i + k = o.up.length → (∀ x ∈ o.up.take i, (o.lo.idxOf x : Int) ≤ m) → (m = -1 ∨ ∃ x ∈ o.up.take i, (o.lo.idxOf x : Int) = m) →
    bgo (o.plc.drop i) i m = (o.endsF i k).map fun e : Nat => (e : Int)
  | 0, i, m, hk, _, _ => by
    have : o.plc.drop i = [] := List.drop_of_length_le (by unfold Od.plc; rw [List.length_map]; omega)
    rw [this]; simp [bgo, Od.endsF]
  | k + 1, i, m, hk, h1, h2 => by
    have hi : i < o.up.length := by omega
    have hp : i < o.plc.length := by unfold Od.plc; rw [List.length_map]; exact hi
    have e : o.plc[i] = (o.lo.idxOf o.up[i] : Int) := by simp [Od.plc]
    rw [List.drop_eq_getElem_cons hp, e, bgo, Od.endsF]
    generalize hm : (if (o.lo.idxOf o.up[i] : Int) > m then (o.lo.idxOf o.up[i] : Int) else m) = m'
    have a1 : ∀ x ∈ o.up.take (i + 1), (o.lo.idxOf x : Int) ≤ m' := fun x hx => by
      rw [take_next hi] at hx
      rcases List.mem_append.mp hx with z | z
      · have := h1 x z; rw [← hm]; split <;> omega
      · rw [List.mem_singleton.mp z, ← hm]; split <;> omega
    have a2 : ∃ x ∈ o.up.take (i + 1), (o.lo.idxOf x : Int) = m' := by
      rw [take_next hi]
      by_cases z : (o.lo.idxOf o.up[i] : Int) > m
      · exact ⟨o.up[i], List.mem_append_right _ (List.mem_singleton.mpr rfl), by rw [← hm, if_pos z]⟩
      · rcases h2 with q | ⟨x, hx, q⟩
        · omega
        · exact ⟨x, List.mem_append_left _ hx, by rw [← hm, if_neg z]; exact q⟩
    have key : m' = (i : Int) ↔ o.cutB (i + 1) = true := by
      constructor
      · intro z
        refine decide_eq_true fun x hx => idx_take.mpr ⟨idx_mem h (List.mem_of_mem_take hx), ?_⟩
        have := a1 x hx; omega
      · intro c
        have hlo : i < o.lo.length := by rw [len_eq h]; exact hi
        obtain ⟨x, hx, q⟩ := a2
        have u := (idx_take.mp (of_decide_eq_true c x hx)).2
        have w : o.lo[i] ∈ o.lo.take (i + 1) := by rw [take_next hlo]; exact List.mem_append_right _ (List.mem_singleton.mpr rfl)
        have v := a1 _ ((cut_perm h c).mem_iff.mpr w)
        rw [nd_idx h.lo.nd (List.getElem?_eq_getElem hlo)] at v
        omega
    have ih := bgo_ends h k (i + 1) m' (by omega) a1 (.inr a2)
    rw [show ((i + 1 : Nat) : Int) = (i : Int) + 1 by omega] at ih
    by_cases z : m' = (i : Int)
    · rw [if_pos z, if_pos (key.mp z), List.map_cons, ih]; congr 1
    · rw [if_neg z, if_neg (fun c => z (key.mpr c)), ih]
theorem bEnds_eq (h : okOrd o) : bEnds o.plc = o.ends.map fun e : Nat => (e : Int) := by
  have := bgo_ends h o.up.length 0 (-1) (by omega) (by simp) (.inl rfl)
  rw [List.drop_zero] at this
  exact this
/-! ### neighbours -/
def Adj {α : Type} (l : List α) (a b : α) : Prop := ∃ A B, l = A ++ a :: b :: B
theorem nd_mid {α : Type} {A B C D : List α} {a : α} (nd : (A ++ a :: B).Nodup) (e : A ++ a :: B = C ++ a :: D) : A = C ∧ B = D := by
  induction A generalizing C with
  | nil =>
    cases C with
    | nil => simp at e; exact ⟨rfl, e⟩
    | cons c C =>
      simp only [List.nil_append, List.cons_append, List.cons.injEq] at e
      have := (List.nodup_cons.mp nd).1
      rw [e.2] at this
      exact absurd (List.mem_append_right _ (List.mem_cons_self ..)) this
  | cons x A ih =>
    cases C with
    | nil =>
      simp only [List.nil_append, List.cons_append, List.cons.injEq] at e
      have := (List.nodup_cons.mp nd).1
      exact absurd (List.mem_append_right _ (e.1 ▸ List.mem_cons_self ..)) this
    | cons c C =>
      simp only [List.cons_append, List.cons.injEq] at e
      obtain ⟨h1, h2⟩ := ih (List.nodup_cons.mp nd).2 e.2
      exact ⟨by rw [e.1, h1], h2⟩
/-- the one behind -/
theorem adj_next {α : Type} {l A B : List α} {a b c : α} (nd : l.Nodup) (e : l = A ++ a :: b :: B) (h : Adj l a c) : c = b := by
  obtain ⟨C, D, h⟩ := h
  rw [e] at h nd
  have := (nd_mid nd h).2
  cases this; rfl
/-- the one ahead -/
theorem adj_prev {α : Type} {l A B : List α} {a b c : α} (nd : l.Nodup) (e : l = A ++ a :: b :: B) (h : Adj l c b) : c = a := by
  obtain ⟨C, D, h⟩ := h
  rw [e, show A ++ a :: b :: B = (A ++ [a]) ++ b :: B by simp] at h
  rw [e, show A ++ a :: b :: B = (A ++ [a]) ++ b :: B by simp] at nd
  rw [show C ++ c :: b :: D = (C ++ [c]) ++ b :: D by simp] at h
  have := (nd_mid nd h).1
  have := List.append_inj_right' this rfl
  cases this; rfl
theorem adj_filter {α : Type} {p : α → Bool} : ∀ {l : List α} {a b : α}, Adj (l.filter p) a b → ∃ A M B, l = A ++ a :: (M ++ b :: B) ∧ (∀ m ∈ M, p m = false) ∧ p b = true
  | [], a, b, ⟨A, B, h⟩ => by cases A <;> simp at h
  | x :: l, a, b, ⟨A, B, h⟩ => by
    by_cases px : p x = true
    · rw [List.filter_cons_of_pos px] at h
      cases A with
      | cons y A =>
        simp only [List.cons_append, List.cons.injEq] at h
        obtain ⟨A', M, B', e, k⟩ := adj_filter (l := l) ⟨A, B, h.2⟩
        exact ⟨x :: A', M, B', by rw [e]; rfl, k⟩
      | nil =>
        simp only [List.nil_append, List.cons.injEq] at h
        obtain ⟨e, h⟩ := h
        have : ∃ M B', l = M ++ b :: B' ∧ (∀ m ∈ M, p m = false) ∧ p b = true := by
          clear e px
          induction l with
          | nil => cases h
          | cons y l ih =>
            by_cases py : p y = true
            · rw [List.filter_cons_of_pos py] at h
              simp only [List.cons.injEq] at h
              exact ⟨[], l, by rw [h.1]; rfl, (fun _ z => by cases z), h.1 ▸ py⟩
            · rw [List.filter_cons_of_neg py] at h
              obtain ⟨M, B', e, k, q⟩ := ih h
              refine ⟨y :: M, B', by rw [e]; rfl, fun m hm => ?_, q⟩
              rcases List.mem_cons.mp hm with z | z
              · rw [z]; simpa using py
              · exact k m z
        obtain ⟨M, B', e2, k⟩ := this
        exact ⟨[], M, B', by rw [e2, e]; rfl, k⟩
    · rw [List.filter_cons_of_neg px] at h
      obtain ⟨A', M, B', e, k⟩ := adj_filter (l := l) ⟨A, B, h⟩
      exact ⟨x :: A', M, B', by rw [e]; rfl, k⟩
/-- what stands behind its neighbour in both rows is dropped: no such pair is left -/
theorem no_pair {α : Type} {up lo : List α} {p : α → Bool} (n1 : up.Nodup) (n2 : lo.Nodup) (hp : ∀ s, p s = false → ∃ r, Adj up r s ∧ Adj lo r s) (hq : ∀ r s, Adj up r s → Adj lo r s → p s = false) :
    ∀ (M1 M2 : List α) (a b : α) (A B C D : List α), up = A ++ a :: (M1 ++ b :: B) → lo = C ++ a :: (M2 ++ b :: D) → (∀ m ∈ M1, p m = false) → (∀ m ∈ M2, p m = false) → p b = true → False
  | [], [], a, b, A, B, C, D, e1, e2, _, _, pb => by
    rw [hq a b ⟨A, B, e1⟩ ⟨C, D, e2⟩] at pb; cases pb
  | [], t :: M2, a, b, A, B, C, D, e1, e2, _, k2, pb => by
    have pt := k2 t (List.mem_cons_self ..)
    obtain ⟨r, r1, r2⟩ := hp t pt
    have z := adj_prev n2 e2 r2
    subst z
    have z := adj_next n1 e1 r1
    subst z
    rw [pt] at pb; cases pb
  | s :: M1, [], a, b, A, B, C, D, e1, e2, k1, _, pb => by
    have ps := k1 s (List.mem_cons_self ..)
    obtain ⟨r, r1, r2⟩ := hp s ps
    have z := adj_prev n1 e1 r1
    subst z
    have z := adj_next n2 e2 r2
    subst z
    rw [ps] at pb; cases pb
  | s :: M1, t :: M2, a, b, A, B, C, D, e1, e2, k1, k2, pb => by
    have ps := k1 s (List.mem_cons_self ..)
    obtain ⟨r, r1, r2⟩ := hp s ps
    have z := adj_prev n1 e1 r1
    subst z
    have z := adj_next n2 e2 r2
    subst z
    exact no_pair n1 n2 hp hq M1 M2 s b (A ++ [r]) B (C ++ [r]) D (by rw [e1]; simp) (by rw [e2]; simp) (fun m hm => k1 m (List.mem_cons_of_mem _ hm)) (fun m hm => k2 m (List.mem_cons_of_mem _ hm)) pb
theorem adj_get {α : Type} {l : List α} {a b : α} {i : Nat} (h1 : l[i]? = some a) (h2 : l[i + 1]? = some b) : Adj l a b := by
  obtain ⟨q1, e1⟩ := List.getElem?_eq_some_iff.mp h1
  obtain ⟨q2, e2⟩ := List.getElem?_eq_some_iff.mp h2
  refine ⟨l.take i, l.drop (i + 2), ?_⟩
  have : l = l.take i ++ l.drop i := (List.take_append_drop i l).symm
  rw [List.drop_eq_getElem_cons q1, List.drop_eq_getElem_cons q2, e1, e2] at this
  exact this
theorem get_adj {α : Type} {l : List α} {a b : α} (h : Adj l a b) : ∃ i, l[i]? = some a ∧ l[i + 1]? = some b := by
  obtain ⟨A, B, e⟩ := h
  exact ⟨A.length, by rw [e]; simp, by rw [e]; simp [List.getElem?_append_right]⟩
theorem zip2_get {α β : Type} {xs : List α} {ys : List β} {a : α × β × Unit} : a ∈ zip2 xs ys ↔ ∃ i : Nat, xs[i]? = some a.1 ∧ ys[i]? = some a.2.1 := by
  unfold zip2
  rw [List.mem_map]
  constructor
  · rintro ⟨p, hp, rfl⟩
    obtain ⟨i, hi, e⟩ := List.getElem_of_mem hp
    have hl := hi
    rw [List.length_zip] at hl
    rw [List.getElem_zip] at e
    refine ⟨i, ?_, ?_⟩
    · rw [List.getElem?_eq_getElem (by omega), ← e]
    · rw [List.getElem?_eq_getElem (by omega), ← e]
  · rintro ⟨i, h1, h2⟩
    obtain ⟨q1, e1⟩ := List.getElem?_eq_some_iff.mp h1
    obtain ⟨q2, e2⟩ := List.getElem?_eq_some_iff.mp h2
    refine ⟨(a.1, a.2.1), ?_, rfl⟩
    refine List.mem_iff_getElem.mpr ⟨i, by rw [List.length_zip]; omega, ?_⟩
    rw [List.getElem_zip, e1, e2]
theorem zip2_adj {α : Type} {l : List α} {a : α × α × Unit} : a ∈ zip2 l (l.drop 1) ↔ Adj l a.1 a.2.1 := by
  rw [zip2_get]
  constructor
  · rintro ⟨i, h1, h2⟩
    rw [List.getElem?_drop, Nat.add_comm] at h2
    exact adj_get h1 h2
  · intro h
    obtain ⟨i, h1, h2⟩ := get_adj h
    exact ⟨i, h1, by rw [List.getElem?_drop, Nat.add_comm]; exact h2⟩
theorem adj_idx {α : Type} [DecidableEq α] {l : List α} (nd : l.Nodup) {a b : α} (ha : a ∈ l) (hb : b ∈ l) : Adj l a b ↔ (l.idxOf b : Int) = (l.idxOf a : Int) + 1 := by
  constructor
  · intro h
    obtain ⟨i, h1, h2⟩ := get_adj h
    rw [nd_idx nd h1, nd_idx nd h2]; omega
  · intro h
    have h' : l.idxOf b = l.idxOf a + 1 := by omega
    exact adj_get (idx_get ha) (by rw [← h']; exact idx_get hb)
theorem ndl_mem {up lo : List Str} (n2 : lo.Nodup) (hs : ∀ x ∈ up, x ∈ lo) {a : Str × (Str × Unit)} : a ∈ Od.ndlOf up lo ↔ Adj up a.1 a.2.1 ∧ Adj lo a.1 a.2.1 := by
  unfold Od.ndlOf
  rw [List.mem_filterMap]
  constructor
  · rintro ⟨x, hx, e⟩
    obtain ⟨m1, m2⟩ := zip2_mem hx
    have k1 := hs _ m1
    have k2 := hs _ (List.mem_of_mem_drop m2)
    by_cases z : (lo.idxOf x.2.1 : Int) = (lo.idxOf x.1 : Int) + 1
    · rw [if_pos z] at e
      cases e
      exact ⟨zip2_adj.mp hx, (adj_idx n2 k1 k2).mpr z⟩
    · rw [if_neg z] at e; cases e
  · rintro ⟨h1, h2⟩
    have hx := zip2_adj.mpr h1
    obtain ⟨m1, m2⟩ := zip2_mem hx
    exact ⟨a, hx, by rw [if_pos ((adj_idx n2 (hs _ m1) (hs _ (List.mem_of_mem_drop m2))).mp h2)]⟩
namespace Od
/-- the second ones of the needless pairs -/
def snd (o : Od) : List Str := o.ndl.map (·.2.1)
def keepB (o : Od) (x : Str) : Bool := decide (x ∉ o.snd)
def join (o : Od) : Od := ⟨o.up.filter o.keepB, o.lo.filter o.keepB⟩
def inv (o : Od) : Od := ⟨o.lo, o.up⟩
def back (o : Od) : Od := ⟨o.up.reverse, o.lo.reverse⟩
end Od
theorem keep_adj (h : okOrd o) {s : Str} : o.keepB s = false ↔ ∃ r, Adj o.up r s ∧ Adj o.lo r s := by
  unfold Od.keepB Od.snd Od.ndl
  rw [decide_eq_false_iff_not, Classical.not_not, List.mem_map]
  constructor
  · rintro ⟨a, ha, rfl⟩
    exact ⟨a.1, (ndl_mem h.lo.nd fun x hx => idx_mem h hx).mp ha⟩
  · rintro ⟨r, hr⟩
    exact ⟨(r, s, ()), (ndl_mem h.lo.nd fun x hx => idx_mem h hx).mpr hr, rfl⟩
theorem inv_ok (h : okOrd o) : okOrd o.inv := ⟨h.lo, h.up, h.pm.symm⟩
theorem rev_ok {l : List Str} (h : okRow l) : okRow l.reverse := ⟨by rw [List.length_reverse]; exact h.n1, by rw [List.length_reverse]; exact h.n40, fun x hx => h.nm x (List.mem_reverse.mp hx), (List.reverse_perm l).nodup_iff.mpr h.nd⟩
theorem back_ok (h : okOrd o) : okOrd o.back := ⟨rev_ok h.up, rev_ok h.lo, (List.reverse_perm _).trans (h.pm.trans (List.reverse_perm _).symm)⟩
theorem filter_ok {l : List Str} {p : Str → Bool} (h : okRow l) (n1 : 1 ≤ (l.filter p).length) : okRow (l.filter p) := ⟨n1, Nat.le_trans (List.length_filter_le _ _) h.n40, fun x hx => h.nm x (List.mem_filter.mp hx).1, List.Sublist.nodup List.filter_sublist h.nd⟩
theorem join_ok (h : okOrd o) : okOrd o.join := by
  have h1 := h.up.n1
  have pm : (o.lo.filter o.keepB).Perm (o.up.filter o.keepB) := h.pm.filter _
  have n1 : 1 ≤ (o.up.filter o.keepB).length := by
    cases e : o.up with
    | nil => rw [e] at h1; simp at h1
    | cons x l =>
      have : o.keepB x = true := by
        cases q : o.keepB x with
        | true => rfl
        | false =>
          obtain ⟨r, ⟨A, B, e1⟩, _⟩ := (keep_adj h).mp q
          have nd := h.up.nd
          rw [e] at e1 nd
          cases A with
          | nil =>
            simp only [List.nil_append, List.cons.injEq] at e1
            exact absurd (e1.2 ▸ List.mem_cons_self ..) (List.nodup_cons.mp nd).1
          | cons y A =>
            simp only [List.cons_append, List.cons.injEq] at e1
            exact absurd (e1.2 ▸ List.mem_append_right _ (List.mem_cons_of_mem _ (List.mem_cons_self ..))) (List.nodup_cons.mp nd).1
      rw [List.filter_cons_of_pos this, List.length_cons]; omega
  exact ⟨filter_ok h.up n1, filter_ok h.lo (by rw [pm.length_eq]; exact n1), pm⟩
theorem join_ndl (h : okOrd o) : o.join.ndl = [] := by
  refine List.eq_nil_iff_forall_not_mem.mpr fun a ha => ?_
  have ha' := (ndl_mem (List.Sublist.nodup List.filter_sublist h.lo.nd) fun x hx => (join_ok h).pm.mem_iff.mpr hx).mp ha
  obtain ⟨A, M1, B, e1, k1, q1⟩ := adj_filter ha'.1
  obtain ⟨C, M2, D, e2, k2, q2⟩ := adj_filter ha'.2
  exact no_pair h.up.nd h.lo.nd (fun s z => (keep_adj h).mp z) (fun r s z1 z2 => (keep_adj h).mpr ⟨r, z1, z2⟩) M1 M2 a.1 a.2.1 A B C D e1 e2 k1 k2 q1
end
end PF2

set_option Elab.async false
set_option linter.all false
set_option maxRecDepth 100000
set_option maxHeartbeats 400000
set_option exponentiation.threshold 20000
namespace PF2
open PF PySem PySem.Spec PyProof.Rows L2 SlX TL
section
variable {c : Nat} {X : Er → Prop} {o : Od}
theorem w_above {Q : List Str → Nat → Prop} (q : Q o.up c) : (m_Order_above (o, ())).wp c Q X := by
  simp only [m_Order_above, b_Order_above, M.none_wp, M.bind_wp, M.ret_wp, M.need_wp, M.the_wp, M.ifb_wp, M.anyOf_wp, M.still_wp, M.roll_wp, M.pick_wp, M.thn_wp, M.thn_nx, M.thn_rt, M.thn_bk, M.thn_ct, M.fin_wp, M.fin_rt, M.finN_wp, M.finN_rt, M.finN_nx, M.FK_nx, M.FK_ct, M.FK_bk, M.FK_rt, decide_eq_true_eq, if_true, if_false, Bool.false_eq_true, Bool.not_eq_true', decide_eq_false_iff_not, Bool.not_true, Bool.not_false, ite_not]; exact q
theorem w_below {Q : List Str → Nat → Prop} (q : Q o.lo c) : (m_Order_below (o, ())).wp c Q X := by
  simp only [m_Order_below, b_Order_below, M.none_wp, M.bind_wp, M.ret_wp, M.need_wp, M.the_wp, M.ifb_wp, M.anyOf_wp, M.still_wp, M.roll_wp, M.pick_wp, M.thn_wp, M.thn_nx, M.thn_rt, M.thn_bk, M.thn_ct, M.fin_wp, M.fin_rt, M.finN_wp, M.finN_rt, M.finN_nx, M.FK_nx, M.FK_ct, M.FK_bk, M.FK_rt, decide_eq_true_eq, if_true, if_false, Bool.false_eq_true, Bool.not_eq_true', decide_eq_false_iff_not, Bool.not_true, Bool.not_false, ite_not]; exact q
theorem w_names {Q : List Str → Nat → Prop} (q : ∀ b, o.Names b → Q b c) : (m_Order_names (o, ())).wp c Q X := by
  simp only [m_Order_names, b_Order_names, M.none_wp, M.bind_wp, M.ret_wp, M.need_wp, M.the_wp, M.ifb_wp, M.anyOf_wp, M.still_wp, M.roll_wp, M.pick_wp, M.thn_wp, M.thn_nx, M.thn_rt, M.thn_bk, M.thn_ct, M.fin_wp, M.fin_rt, M.finN_wp, M.finN_rt, M.finN_nx, M.FK_nx, M.FK_ct, M.FK_bk, M.FK_rt, decide_eq_true_eq, if_true, if_false, Bool.false_eq_true, Bool.not_eq_true', decide_eq_false_iff_not, Bool.not_true, Bool.not_false, ite_not]; exact q
theorem w_many {Q : Int → Nat → Prop} (q : Q o.up.length c) : (m_Order_many (o, ())).wp c Q X := by
  simp only [m_Order_many, b_Order_many, M.none_wp, M.bind_wp, M.ret_wp, M.need_wp, M.the_wp, M.ifb_wp, M.anyOf_wp, M.still_wp, M.roll_wp, M.pick_wp, M.thn_wp, M.thn_nx, M.thn_rt, M.thn_bk, M.thn_ct, M.fin_wp, M.fin_rt, M.finN_wp, M.finN_rt, M.finN_nx, M.FK_nx, M.FK_ct, M.FK_bk, M.FK_rt, decide_eq_true_eq, if_true, if_false, Bool.false_eq_true, Bool.not_eq_true', decide_eq_false_iff_not, Bool.not_true, Bool.not_false, ite_not]; exact q
theorem w_len {Q : Int → Nat → Prop} (q : Q o.up.length c) : (m_Order___len__ (o, ())).wp c Q X := by
  simp only [m_Order___len__, b_Order___len__, M.none_wp, M.bind_wp, M.ret_wp, M.need_wp, M.the_wp, M.ifb_wp, M.anyOf_wp, M.still_wp, M.roll_wp, M.pick_wp, M.thn_wp, M.thn_nx, M.thn_rt, M.thn_bk, M.thn_ct, M.fin_wp, M.fin_rt, M.finN_wp, M.finN_rt, M.finN_nx, M.FK_nx, M.FK_ct, M.FK_bk, M.FK_rt, decide_eq_true_eq, if_true, if_false, Bool.false_eq_true, Bool.not_eq_true', decide_eq_false_iff_not, Bool.not_true, Bool.not_false, ite_not]; exact q
theorem w_places {Q : List Int → Nat → Prop} (q : Q o.plc c) : (m_Order_places (o, ())).wp c Q X := by
  simp only [m_Order_places, b_Order_places, M.none_wp, M.bind_wp, M.ret_wp, M.need_wp, M.the_wp, M.ifb_wp, M.anyOf_wp, M.still_wp, M.roll_wp, M.pick_wp, M.thn_wp, M.thn_nx, M.thn_rt, M.thn_bk, M.thn_ct, M.fin_wp, M.fin_rt, M.finN_wp, M.finN_rt, M.finN_nx, M.FK_nx, M.FK_ct, M.FK_bk, M.FK_rt, decide_eq_true_eq, if_true, if_false, Bool.false_eq_true, Bool.not_eq_true', decide_eq_false_iff_not, Bool.not_true, Bool.not_false, ite_not]; exact q
theorem w_is_whole {Q : Bool → Nat → Prop} (q : Q o.whole c) : (m_Order_is_whole (o, ())).wp c Q X := by
  simp only [m_Order_is_whole, b_Order_is_whole, M.none_wp, M.bind_wp, M.ret_wp, M.need_wp, M.the_wp, M.ifb_wp, M.anyOf_wp, M.still_wp, M.roll_wp, M.pick_wp, M.thn_wp, M.thn_nx, M.thn_rt, M.thn_bk, M.thn_ct, M.fin_wp, M.fin_rt, M.finN_wp, M.finN_rt, M.finN_nx, M.FK_nx, M.FK_ct, M.FK_bk, M.FK_rt, decide_eq_true_eq, if_true, if_false, Bool.false_eq_true, Bool.not_eq_true', decide_eq_false_iff_not, Bool.not_true, Bool.not_false, ite_not]; exact q
theorem w_str {Q : Str → Nat → Prop} (q : Q o.txt c) : (m_Order___str__ (o, ())).wp c Q X := by
  simp only [m_Order___str__, b_Order___str__, M.none_wp, M.bind_wp, M.ret_wp, M.need_wp, M.the_wp, M.ifb_wp, M.anyOf_wp, M.still_wp, M.roll_wp, M.pick_wp, M.thn_wp, M.thn_nx, M.thn_rt, M.thn_bk, M.thn_ct, M.fin_wp, M.fin_rt, M.finN_wp, M.finN_rt, M.finN_nx, M.FK_nx, M.FK_ct, M.FK_bk, M.FK_rt, decide_eq_true_eq, if_true, if_false, Bool.false_eq_true, Bool.not_eq_true', decide_eq_false_iff_not, Bool.not_true, Bool.not_false, ite_not]; exact q
def Od.has (o : Od) : Option Str → Bool
  | some x => decide (x ∈ o.up)
  | none => false
theorem w_contains {x : Option Str} {Q : Bool → Nat → Prop} (q : Q (o.has x) c) : (m_Order___contains__ (o, x, ())).wp c Q X := by
  simp only [m_Order___contains__, b_Order___contains__, M.none_wp, M.bind_wp, M.ret_wp, M.need_wp, M.the_wp, M.ifb_wp, M.anyOf_wp, M.still_wp, M.roll_wp, M.pick_wp, M.thn_wp, M.thn_nx, M.thn_rt, M.thn_bk, M.thn_ct, M.fin_wp, M.fin_rt, M.finN_wp, M.finN_rt, M.finN_nx, M.FK_nx, M.FK_ct, M.FK_bk, M.FK_rt, decide_eq_true_eq, if_true, if_false, Bool.false_eq_true, Bool.not_eq_true', decide_eq_false_iff_not, Bool.not_true, Bool.not_false, ite_not]
  cases x with
  | none => exact (if_neg (by simp)).mpr q
  | some x =>
    refine (if_pos (show (some x).isSome = true from rfl)).mpr ⟨x, rfl, ?_⟩
    have e : (dget o.upAt x).isSome = o.has (some x) := by
      unfold Od.upAt Od.has
      by_cases z : x ∈ o.up
      · rw [dget_idx z]; simp [z]
      · rw [dget_idx_none z]; simp [z]
    rw [e]; exact q
theorem okRow_perm {a b : List Str} (h : okRow a) (p : b.Perm a) : okRow b := ⟨by rw [p.length_eq]; exact h.n1, by rw [p.length_eq]; exact h.n40, fun x hx => h.nm x (p.mem_iff.mp hx), p.nodup_iff.mpr h.nd⟩
theorem endsF_sorted (o : Od) : ∀ (k i : Nat), (o.endsF i k).Pairwise (· ≤ ·)
  | 0, i => List.Pairwise.nil
  | k + 1, i => by
    unfold Od.endsF
    by_cases z : o.cutB (i + 1) = true
    · rw [if_pos z, List.pairwise_cons]
      exact ⟨fun e he => Nat.le_of_lt (endsF_mem o _ _ _ he).1, endsF_sorted o k (i + 1)⟩
    · rw [if_neg z]; exact endsF_sorted o k (i + 1)
theorem ends_le {i e : Nat} (hd : o.ends.drop i = e :: o.ends.drop (i + 1)) : ∀ e' ∈ o.ends.drop (i + 1), e ≤ e' := by
  have p : (o.ends.drop i).Pairwise (· ≤ ·) := List.Pairwise.sublist (List.drop_sublist _ _) (endsF_sorted o _ _)
  rw [hd, List.pairwise_cons] at p
  exact p.1
theorem fm_sub {α β γ : Type} {f : α → Option β} {g : β → γ} {k : α → γ} (h : ∀ a b, f a = some b → g b = k a) : ∀ l : List α, ((l.filterMap f).map g).Sublist (l.map k)
  | [] => List.Sublist.refl _
  | a :: l => by
    rw [List.filterMap_cons, List.map_cons]
    cases e : f a with
    | none => exact (fm_sub h l).cons _
    | some b => rw [List.map_cons, h a b e]; exact (fm_sub h l).cons₂ _
theorem fm_filter {α : Type} {p : α → Bool} : ∀ l : List α, (l.filterMap fun x => if p x = true then some x else none) = l.filter p
  | [] => rfl
  | a :: l => by
    rw [List.filterMap_cons, List.filter_cons, fm_filter l]
    by_cases e : p a = true
    · simp only [if_pos e]
    · simp only [if_neg e]
theorem snd_nd (h : okOrd o) : o.snd.Nodup := by
  refine List.Sublist.nodup (fm_sub (k := fun a => a.2.1) (fun a b e => ?_) _) ?_
  · by_cases z : (o.lo.idxOf a.2.1 : Int) = (o.lo.idxOf a.1 : Int) + 1
    · rw [if_pos z] at e; cases e; rfl
    · rw [if_neg z] at e; cases e
  · refine List.Sublist.nodup (l₂ := o.up.drop 1) ?_ (nd_drop h.up.nd 1)
    unfold zip2
    rw [List.map_map]
    have : (((fun a : Str × Str × Unit => a.2.1) ∘ fun p : Str × Str => (p.1, p.2, ()))) = Prod.snd := rfl
    rw [this, ← List.unzip_snd, List.unzip_zip_right]
    · exact List.Sublist.refl _
    · rw [List.length_drop]; omega
theorem ndl_len (o : Od) : o.ndl.length ≤ o.up.length := by
  refine Nat.le_trans (List.length_filterMap_le _ _) ?_
  rw [zip2_len]; omega
theorem dmerge_snd (h : okOrd o) : dmerge [] (o.ndl.map fun a => (a.2.1, true)) = o.snd.map fun x => (x, true) := by
  have e : (o.ndl.map fun a => (a.2.1, true)) = o.snd.map fun x => (x, true) := by unfold Od.snd; rw [List.map_map]; rfl
  rw [e, dmerge_nodup]
  · simp
  · rw [List.nil_append, List.map_map]
    show (o.snd.map fun a => a).Nodup
    rw [List.map_id']; exact snd_nd h
theorem snd_get {x : Str} : (dget (o.snd.map fun x => (x, true)) x).isSome = !o.keepB x := by
  unfold dget Od.keepB
  generalize o.snd = l
  induction l with
  | nil => simp
  | cons y l ih =>
    rw [List.map_cons]
    by_cases e : y = x
    · subst e
      rw [List.find?_cons_of_pos (by simp)]
      simp
    · rw [List.find?_cons_of_neg (by simpa using e), ih]
      have e' : ¬ x = y := fun z => e z.symm
      simp [e']
def Od.fm (o : Od) (x y : Str) : Int := if x = y then 0 else if decide (o.up.idxOf x < o.up.idxOf y) = decide (o.lo.idxOf x < o.lo.idxOf y) then 0 else if o.up.idxOf x < o.up.idxOf y then 1 else -1
theorem no_gap {x : Str} (h : okName x) : 32 ∉ tl x := fun z => by
  have : (⟨#[32]⟩ : Str) ∈ PF.signs x := List.mem_map.mpr ⟨32, z, rfl⟩
  exact absurd (h.sg _ this) (by decide +kernel)
theorem row_back {l : List Str} (h : okRow l) : Txt.split (Txt.join " " l) " " = l :=
  split_join (s := 32) (S := []) (by decide +kernel) (by decide +kernel) (fun e => by have := h.n1; rw [e] at this; cases this) fun p hp => no_gap (h.nm p hp)
theorem w_row_in {l : List Str} {Q : Option (List Str) → Nat → Prop} (h : okRow l) (q : Q (some l) c) : (m_row_in (Txt.join " " l, ())).wp c Q X := by
  simp only [m_row_in, b_row_in, M.none_wp, M.bind_wp, M.ret_wp, M.need_wp, M.the_wp, M.ifb_wp, M.anyOf_wp, M.still_wp, M.roll_wp, M.pick_wp, M.thn_wp, M.thn_nx, M.thn_rt, M.thn_bk, M.thn_ct, M.fin_wp, M.fin_rt, M.finN_wp, M.finN_rt, M.finN_nx, M.FK_nx, M.FK_ct, M.FK_bk, M.FK_rt, decide_eq_true_eq, if_true, if_false, Bool.false_eq_true, Bool.not_eq_true', decide_eq_false_iff_not, Bool.not_true, Bool.not_false, ite_not]
  rw [if_neg (by simp), row_back h]
  have := row_join h
  refine ⟨⟨by decide, sizeL (by omega)⟩, w_is_row h ?_⟩
  exact (if_pos rfl).mpr q
theorem w_read {u l : Str} {Q : Od → Nat → Prop} (h : okOrd o) (hu : u = Txt.join " " o.up) (hl : l = Txt.join " " o.lo) (q : Q o c) : (m_Order_read ((), u, l, ())).wp c Q X := by
  subst hu hl
  simp only [m_Order_read, b_Order_read, M.none_wp, M.bind_wp, M.ret_wp, M.need_wp, M.the_wp, M.ifb_wp, M.anyOf_wp, M.still_wp, M.roll_wp, M.pick_wp, M.thn_wp, M.thn_nx, M.thn_rt, M.thn_bk, M.thn_ct, M.fin_wp, M.fin_rt, M.finN_wp, M.finN_rt, M.finN_nx, M.FK_nx, M.FK_ct, M.FK_bk, M.FK_rt, decide_eq_true_eq, if_true, if_false, Bool.false_eq_true, Bool.not_eq_true', decide_eq_false_iff_not, Bool.not_true, Bool.not_false, ite_not]
  refine w_row_in h.up (w_row_in h.lo ?_)
  refine (if_neg (by simp)).mpr ((if_neg (by simp)).mpr ⟨_, rfl, _, rfl, h, q⟩)
theorem w_blocks {Q : List Od → Nat → Prop} (h : okOrd o) (q : Q o.blks c) : (m_Order_blocks (o, ())).wp c Q X := by
  simp only [m_Order_blocks, b_Order_blocks, M.none_wp, M.bind_wp, M.ret_wp, M.need_wp, M.the_wp, M.ifb_wp, M.anyOf_wp, M.still_wp, M.roll_wp, M.pick_wp, M.thn_wp, M.thn_nx, M.thn_rt, M.thn_bk, M.thn_ct, M.fin_wp, M.fin_rt, M.finN_wp, M.finN_rt, M.finN_nx, M.FK_nx, M.FK_ct, M.FK_bk, M.FK_rt, decide_eq_true_eq, if_true, if_false, Bool.false_eq_true, Bool.not_eq_true', decide_eq_false_iff_not, Bool.not_true, Bool.not_false, ite_not]
  have hlen : o.plc.length ≤ 1000 := by unfold Od.plc; rw [List.length_map]; have := h.up.n40; omega
  refine w_block_ends hlen ?_
  rw [bEnds_eq h]
  refine M.forM_inv (fun i ρ d => d = c ∧ ρ.1 = o ∧ ρ.2.1.length ≤ i ∧ ∃ s : Nat, ρ.2.2.1 = (s : Int) ∧ ρ.2.1 ++ o.cuts (o.ends.drop i) s = o.blks ∧ ∀ e ∈ o.ends.drop i, s ≤ e) ⟨rfl, rfl, Nat.zero_le _, 0, rfl, rfl, fun _ _ => Nat.zero_le _⟩ ?_ ?_
  · rintro i a ρ d hi ⟨rfl, ho, hl, s, hs, he, hm⟩
    rw [List.getElem?_map] at hi
    cases hg : o.ends[i]? with
    | none => rw [hg] at hi; cases hi
    | some e =>
      rw [hg] at hi
      cases hi
      obtain ⟨hlt, hge⟩ := List.getElem?_eq_some_iff.mp hg
      have hd : o.ends.drop i = e :: o.ends.drop (i + 1) := by rw [List.drop_eq_getElem_cons hlt, hge]
      have hee := endsF_mem o _ _ _ (List.mem_of_getElem? hg)
      rw [hd] at he hm
      rw [Od.cuts] at he
      have hse := hm e (List.mem_cons_self ..)
      have hl40 := endsF_len o o.up.length 0
      have h40 := h.up.n40
      have hlt' : i < 40 := Nat.lt_of_lt_of_le hlt (Nat.le_trans hl40 h40)
      simp only [M.none_wp, M.bind_wp, M.ret_wp, M.need_wp, M.the_wp, M.ifb_wp, M.anyOf_wp, M.still_wp, M.roll_wp, M.pick_wp, M.thn_wp, M.thn_nx, M.thn_rt, M.thn_bk, M.thn_ct, M.fin_wp, M.fin_rt, M.finN_wp, M.finN_rt, M.finN_nx, M.FK_nx, M.FK_ct, M.FK_bk, M.FK_rt, decide_eq_true_eq, if_true, if_false, Bool.false_eq_true, Bool.not_eq_true', decide_eq_false_iff_not, Bool.not_true, Bool.not_false, ite_not, ho, hs]
      rw [cutL_mid _ _ _ hse (by omega), cutL_mid _ _ _ hse (by rw [len_eq h]; omega)]
      refine ⟨?_, sizeLt (by omega), trivial, trivial, by rw [List.length_append]; exact Nat.succ_le_succ hl, e, rfl, ?_, ?_⟩
      · exact blks_ok h _ (he ▸ List.mem_append_right _ (List.mem_cons_self ..))
      · rw [List.append_assoc, List.singleton_append]; exact he
      · exact fun e' he' => ends_le hd e' he'
  · rintro ρ d ⟨rfl, ho, hl, s, hs, he, hm⟩
    rw [List.length_map, List.drop_length] at he
    rw [Od.cuts, List.append_nil] at he
    simp only [M.none_wp, M.bind_wp, M.ret_wp, M.need_wp, M.the_wp, M.ifb_wp, M.anyOf_wp, M.still_wp, M.roll_wp, M.pick_wp, M.thn_wp, M.thn_nx, M.thn_rt, M.thn_bk, M.thn_ct, M.fin_wp, M.fin_rt, M.finN_wp, M.finN_rt, M.finN_nx, M.FK_nx, M.FK_ct, M.FK_bk, M.FK_rt, decide_eq_true_eq, if_true, if_false, Bool.false_eq_true, Bool.not_eq_true', decide_eq_false_iff_not, Bool.not_true, Bool.not_false, ite_not, he]
    exact q
theorem w_renamedP {d : List (Str × Str)} {f : Str → Str} {Q : Od → Nat → Prop} (h : okOrd o) (hk : (d.map (·.1)).Perm o.up) (hf : ∀ x ∈ o.up, dget d x = some (f x)) (hr : okRow (o.up.map f)) (q : Q ⟨o.up.map f, o.lo.map f⟩ c) : (m_Order_renamed (o, d, ())).wp c Q X := by
  simp only [m_Order_renamed, b_Order_renamed, M.none_wp, M.bind_wp, M.ret_wp, M.need_wp, M.the_wp, M.ifb_wp, M.anyOf_wp, M.still_wp, M.roll_wp, M.pick_wp, M.thn_wp, M.thn_nx, M.thn_rt, M.thn_bk, M.thn_ct, M.fin_wp, M.fin_rt, M.finN_wp, M.finN_rt, M.finN_nx, M.FK_nx, M.FK_ct, M.FK_bk, M.FK_rt, decide_eq_true_eq, if_true, if_false, Bool.false_eq_true, Bool.not_eq_true', decide_eq_false_iff_not, Bool.not_true, Bool.not_false, ite_not, m_is_naming_of, b_is_naming_of]
  have h40 := h.up.n40
  have k40 := h.lo.n40
  have dl : d.length = o.up.length := by rw [← hk.length_eq, List.length_map]
  have kr : okRow ((d.map (·.1)).map f) := okRow_perm hr (hk.map f)
  have kl : (d.map (·.1)).length = o.up.length := hk.length_eq
  rw [if_neg (by simp), if_pos (by rw [dl])]
  generalize d.map (·.1) = ks at hk kr kl ⊢
  refine ⟨by omega, M.lcM_map (g := fun _ => true) (fun a ha Q q => ?_) ?_⟩
  · simp only [M.none_wp, M.bind_wp, M.ret_wp, M.need_wp, M.the_wp, M.ifb_wp, M.anyOf_wp, M.still_wp, M.roll_wp, M.pick_wp, M.thn_wp, M.thn_nx, M.thn_rt, M.thn_bk, M.thn_ct, M.fin_wp, M.fin_rt, M.finN_wp, M.finN_rt, M.finN_nx, M.FK_nx, M.FK_ct, M.FK_bk, M.FK_rt, decide_eq_true_eq, if_true, if_false, Bool.false_eq_true, Bool.not_eq_true', decide_eq_false_iff_not, Bool.not_true, Bool.not_false, ite_not]
    refine w_contains ?_
    rw [show o.has (some a) = true from decide_eq_true (hk.mem_iff.mp ha)]; exact q
  rw [all_map_true fun _ _ => rfl]
  refine (if_neg (by simp)).mpr ⟨by omega, M.lcM_map (g := f) (fun a ha Q q => ⟨f a, hf a (hk.mem_iff.mp ha), q⟩) ⟨by rw [List.length_map]; omega, M.lcM_map (g := fun _ => true) (fun a ha Q q => ?_) ?_⟩⟩
  · simp only [M.none_wp, M.bind_wp, M.ret_wp, M.need_wp, M.the_wp, M.ifb_wp, M.anyOf_wp, M.still_wp, M.roll_wp, M.pick_wp, M.thn_wp, M.thn_nx, M.thn_rt, M.thn_bk, M.thn_ct, M.fin_wp, M.fin_rt, M.finN_wp, M.finN_rt, M.finN_nx, M.FK_nx, M.FK_ct, M.FK_bk, M.FK_rt, decide_eq_true_eq, if_true, if_false, Bool.false_eq_true, Bool.not_eq_true', decide_eq_false_iff_not, Bool.not_true, Bool.not_false, ite_not]
    exact w_is_name (kr.nm a ha) q
  rw [all_map_true fun _ _ => rfl]
  refine (if_pos rfl).mpr ⟨by rw [List.length_map]; omega, M.lcM_map (g := fun a => (a, true)) (fun a ha Q q => by simp only [M.none_wp, M.bind_wp, M.ret_wp, M.need_wp, M.the_wp, M.ifb_wp, M.anyOf_wp, M.still_wp, M.roll_wp, M.pick_wp, M.thn_wp, M.thn_nx, M.thn_rt, M.thn_bk, M.thn_ct, M.fin_wp, M.fin_rt, M.finN_wp, M.finN_rt, M.finN_nx, M.FK_nx, M.FK_ct, M.FK_bk, M.FK_rt, decide_eq_true_eq, if_true, if_false, Bool.false_eq_true, Bool.not_eq_true', decide_eq_false_iff_not, Bool.not_true, Bool.not_false, ite_not]; exact q) ?_⟩
  have e : dmerge [] ((ks.map f).map fun a => (a, true)) = (ks.map f).map fun a => (a, true) := by
    rw [dmerge_nodup]
    · simp
    · rw [List.nil_append, List.map_map]
      show ((ks.map f).map fun a => a).Nodup
      rw [List.map_id']; exact kr.nd
  rw [e, List.length_map (f := fun a => (a, true))]
  refine (if_pos rfl).mpr ⟨by omega, M.lcM_map (g := f) (fun a ha Q q => ⟨f a, hf a ha, q⟩) ⟨by omega, M.lcM_map (g := f) (fun a ha Q q => ⟨f a, hf a (h.pm.mem_iff.mp ha), q⟩) ⟨⟨hr, ?_, h.pm.map f⟩, q⟩⟩⟩
  exact okRow_perm hr (h.pm.map f)
theorem w_renamed {d : List (Str × Str)} {f : Str → Str} {Q : Od → Nat → Prop} (h : okOrd o) (hk : d.map (·.1) = o.up) (hf : ∀ x ∈ o.up, dget d x = some (f x)) (hr : okRow (o.up.map f)) (q : Q ⟨o.up.map f, o.lo.map f⟩ c) : (m_Order_renamed (o, d, ())).wp c Q X :=
  w_renamedP h (by rw [hk]) hf hr q
end
end PF2

set_option Elab.async false
set_option linter.all false
set_option maxRecDepth 100000
set_option maxHeartbeats 4000000
set_option exponentiation.threshold 20000
set_option pp.maxSteps 800
namespace PF2
open PF PySem PySem.Spec PyProof.Rows L2 SlX
section
variable {P : Program} {w : World} {K : PySem.W.Frag} {mg : Str → Option Value} {base : Heap} {f CO : Addr} {fd : FuncData}
theorem sc_is_whole : FnScope ["value"] ["value"] (defScope (topS 9)) := ⟨rfl, rfl, rfl, by decide +kernel, rfl, by decide +kernel, by decide +kernel⟩
noncomputable def b_is_whole (ρ : (Int × Unit)) : M (Ct Unit Unit Bool) := (M.bind (M.bind (M.bind (M.bind (M.ret ρ.1) fun (x3 : Int) => M.bind (M.bind (M.ret ()) fun (x1 : Unit) => M.bind (M.ret ()) fun (x2 : Unit) => M.ret (x1, x2)) fun (x4 : (Unit × Unit)) => M.ret (x3, x4)) fun (r5 : (Int × (Unit × Unit))) => M.ret true) fun (x12 : Bool) => M.ifb x12 (M.bind (M.bind (M.bind (M.ret ρ.1) fun (x8 : Int) => M.bind (M.bind (M.ret ()) fun (x6 : Unit) => M.bind (M.ret ()) fun (x7 : Unit) => M.ret (x6, x7)) fun (x9 : (Unit × Unit)) => M.ret (x8, x9)) fun (r10 : (Int × (Unit × Unit))) => M.ret false) fun (x11 : Bool) => M.ret (!x11)) (M.ret false)) fun (x13 : Bool) => M.ret (.rt x13))
noncomputable def m_is_whole (a : (Int × Unit)) : M Bool := M.fin (b_is_whole (a.1, ()))
theorem ok_is_whole (F : Fun K "is_whole" "is_whole" (topS 9) f fd) (fr : Free mg) : FnOk P w K mg base CX0 2 f fd ["value"] (spOf (aCons rInt aNil) rBl m_is_whole) := by
  refine F.ok sc_is_whole (fun vs H Q E h => spOf_len h) (fun cdv A outer s H vs Q E hr h => ⟨_, (pss_one (ps_ret (pe_and (pe_callB call_isiU (by rfl) fr.b_isinstance (by decide +kernel) (pa_cons (pv 0) (pa_cons (pe_bltn (v := .ty "int") (by rfl) fr.b_int (by decide +kernel) rfl) pa_nil))) (pe_one (pe_not (pe_callB call_isiU (by rfl) fr.b_isinstance (by decide +kernel) (pa_cons (pv 0) (pa_cons (pe_bltn (v := .ty "bool") (by rfl) fr.b_bool (by decide +kernel) rfl) pa_nil)))))))), ?_⟩)
  refine fn_body (X := E) (S := (aCons rInt aNil)) (E' := eNil) (R := rBl) (st_par st_nil) rfl (s_ret (e_and (e_ca (c_isiT (b := true) tr_int (kit_ty (by decide +kernel))) (a_cons (e_var get0) (a_cons e_tyV a_nil))) (e_not (e_ca (c_isiT (b := false) tr_int (kit_ty (by decide +kernel))) (a_cons (e_var get0) (a_cons e_tyV a_nil)))))) ?_
  exact h
theorem sc_require_order : FnScope ["value"] ["value"] (defScope (topS 19)) := ⟨rfl, rfl, rfl, by decide +kernel, rfl, by decide +kernel, by decide +kernel⟩
noncomputable def b_require_order (ρ : (Od × Unit)) : M (Ct (Od × Unit) Unit Unit) := (M.bind (M.bind (M.bind (M.bind (M.ret ρ.1) fun (x16 : Od) => M.bind (M.bind (M.ret ()) fun (x14 : Unit) => M.bind (M.ret ()) fun (x15 : Unit) => M.ret (x14, x15)) fun (x17 : (Unit × Unit)) => M.ret (x16, x17)) fun (r18 : (Od × (Unit × Unit))) => M.ret true) fun (x19 : Bool) => M.ret (!x19)) fun (x20 : Bool) => M.ifb x20 M.none (M.ret (.nx ρ)))
noncomputable def m_require_order (a : (Od × Unit)) : M Unit := M.finN (b_require_order (a.1, ()))
theorem ok_require_order (F : Fun K "require_order" "require_order" (topS 19) f fd) (T : OTx K mg CO) (fr : Free mg) : FnOk P w K mg base CX0 2 f fd ["value"] (spOf (aCons (rOrd K CO) aNil) rNon m_require_order) := by
  refine F.ok sc_require_order (fun vs H Q E h => spOf_len h) (fun cdv A outer s H vs Q E hr h => ⟨_, (pss_one (ps_if (pt_not (pt_val (pe_callB call_isiU (by rfl) fr.b_isinstance (by decide +kernel) (pa_cons (pv 0) (pa_cons (pe_glob (v := .ref CO) rfl T.gCO rfl) pa_nil))))) (pss_one ps_never) pss_nil)), ?_⟩)
  refine fn_bodyN (X := E) (S := (aCons (rOrd K CO) aNil)) (E' := (eCons (sVal (rOrd K CO)) eNil)) (st_par st_nil) rfl (s_if (t_not (t_b (e_ca (c_isi (tr_slt T.cCO T.yCO slr_ord) (.own CO) T.iCOCO fun h => h) (a_cons (e_var get0) (a_cons e_clsV a_nil))))) s_never s_nil) ?_
  exact h
theorem sc_are_places : FnScope ["value", "most", "one", "many"] ["value", "most"] (defScope (topS 23)) := ⟨rfl, rfl, rfl, by decide +kernel, rfl, by decide +kernel, by decide +kernel⟩
noncomputable def b_are_places (ρ : ((List Int) × (Int × (Unit × (Unit × Unit))))) : M (Ct Unit Unit Bool) := (M.thn (M.bind (M.bind (M.bind (M.bind (M.bind (M.ret ρ.1) fun (x23 : (List Int)) => M.bind (M.bind (M.ret ()) fun (x21 : Unit) => M.bind (M.ret ()) fun (x22 : Unit) => M.ret (x21, x22)) fun (x24 : (Unit × Unit)) => M.ret (x23, x24)) fun (r25 : ((List Int) × (Unit × Unit))) => M.ret true) fun (x26 : Bool) => M.ret (!x26)) fun (x51 : Bool) => M.ifb x51 (M.ret true) (M.bind (M.bind (M.bind (M.ret (2 : Int)) fun (x33 : Int) => M.bind (M.bind (M.bind (M.ret ρ.1) fun (x27 : (List Int)) => M.bind (M.ret ()) fun (x28 : Unit) => M.ret (x27, x28)) fun (r29 : ((List Int) × Unit)) => M.ret (r29.1.length : Int)) fun (x34 : Int) => M.bind (M.ret (decide (x33 ≤ x34))) fun (k35 : Bool) => M.ifb k35 (M.bind (M.ret ρ.2.1) fun (x36 : Int) => M.ret (decide (x34 ≤ x36))) (M.ret false)) fun (x37 : Bool) => M.ret (!x37)) fun (x50 : Bool) => M.ifb x50 (M.ret true) (M.bind (M.bind (M.bind (M.bind (M.ret ρ.1) fun (l42 : List Int) => M.need (l42.length ≤ 1000000) (M.lcM l42 fun (a43 : Int) => M.bind ((fun (ρ : ((List Int) × (Int × (Int × (Unit × Unit))))) => (M.ret true)) (ρ.1, ρ.2.1, a43, ρ.2.2.2)) fun (b44 : Bool) => M.ifb b44 (M.bind ((fun (ρ : ((List Int) × (Int × (Int × (Unit × Unit))))) => (M.bind (M.bind (M.ret ρ.2.2.1) fun (x38 : Int) => M.bind (M.ret ()) fun (x39 : Unit) => M.ret (x38, x39)) fun (r40 : (Int × Unit)) => M.still (m_is_whole r40))) (ρ.1, ρ.2.1, a43, ρ.2.2.2)) fun (y45 : Bool) => M.ret (some y45)) (M.ret none))) fun (x46 : (List Bool)) => M.bind (M.ret ()) fun (x47 : Unit) => M.ret (x46, x47)) fun (r48 : ((List Bool) × Unit)) => M.ret (r48.1.all id)) fun (x49 : Bool) => M.ret (!x49)))) fun (x53 : Bool) => M.ifb x53 (M.bind (M.ret false) fun (x52 : Bool) => M.ret (.rt x52)) (M.ret (.nx ρ))) fun (ρ : ((List Int) × (Int × (Unit × (Unit × Unit))))) => (M.thn (M.bind (M.bind (M.bind (M.bind (M.ret ρ.1) fun (x54 : (List Int)) => M.bind (M.ret ()) fun (x55 : Unit) => M.ret (x54, x55)) fun (r56 : ((List Int) × Unit)) => M.need (r56.1.length < 64) (M.anyOf fun b => b.Perm r56.1 ∧ b.Pairwise (· ≤ ·))) fun (x61 : (List Int)) => M.bind (M.bind (M.bind (M.bind (M.ret ρ.1) fun (x57 : (List Int)) => M.bind (M.ret ()) fun (x58 : Unit) => M.ret (x57, x58)) fun (r59 : ((List Int) × Unit)) => M.ret (r59.1.length : Int)) fun (x60 : Int) => M.need (0 ≤ x60 ∧ x60 ≤ 16777216) (M.ret (rng 0 x60))) fun (x62 : (List Int)) => M.need (((fun (xs : (List Int)) => PyData.list (xs.map PyData.int)) x61).canLay0 = true ∧ ((fun (xs : (List Int)) => PyData.list (xs.map PyData.int)) x62).canLay0 = true) (M.ret (!PyData.eqv ((fun (xs : (List Int)) => PyData.list (xs.map PyData.int)) x61) ((fun (xs : (List Int)) => PyData.list (xs.map PyData.int)) x62)))) fun (x64 : Bool) => M.ifb x64 (M.bind (M.ret false) fun (x63 : Bool) => M.ret (.rt x63)) (M.ret (.nx ρ))) fun (ρ : ((List Int) × (Int × (Unit × (Unit × Unit))))) => (M.bind (M.bind (M.bind (M.bind (M.bind (M.ret (1 : Int)) fun (x68 : Int) => M.bind (M.bind (M.bind (M.ret ρ.1) fun (x65 : (List Int)) => M.bind (M.ret ()) fun (x66 : Unit) => M.ret (x65, x66)) fun (r67 : ((List Int) × Unit)) => M.ret (r67.1.length : Int)) fun (x69 : Int) => M.need (-(2 ^ 62) ≤ x68 ∧ x68 < 2 ^ 62 ∧ -(2 ^ 62) ≤ x69 ∧ x69 < 2 ^ 62) (M.ret (rng x68 x69))) fun (l80 : List Int) => M.need (l80.length ≤ 1000000) (M.lcM l80 fun (a81 : Int) => M.bind ((fun (ρ : ((List Int) × (Int × (Unit × (Int × Unit))))) => (M.ret true)) (ρ.1, ρ.2.1, ρ.2.2.1, a81, ρ.2.2.2.2)) fun (b82 : Bool) => M.ifb b82 (M.bind ((fun (ρ : ((List Int) × (Int × (Unit × (Int × Unit))))) => (M.bind (M.bind (M.bind (M.bind (M.ret ρ.1) fun (x71 : (List Int)) => M.bind (M.ret none) fun (x72 : Option Int) => M.bind (M.bind (M.ret ρ.2.2.2.1) fun (x70 : Int) => M.ret (some x70)) fun (x73 : Option Int) => M.ret (cutL x71 x72 x73)) fun (x74 : (List Int)) => M.bind (M.ret ()) fun (x75 : Unit) => M.ret (x74, x75)) fun (r76 : ((List Int) × Unit)) => M.need (0 < r76.1.length) (M.anyOf fun m => m ∈ r76.1 ∧ ∀ y ∈ r76.1, y ≤ m)) fun (x77 : Int) => M.bind (M.ret ρ.2.2.2.1) fun (x78 : Int) => M.ret (decide (x78 ≤ x77)))) (ρ.1, ρ.2.1, ρ.2.2.1, a81, ρ.2.2.2.2)) fun (y83 : Bool) => M.ret (some y83)) (M.ret none))) fun (x84 : (List Bool)) => M.bind (M.ret ()) fun (x85 : Unit) => M.ret (x84, x85)) fun (r86 : ((List Bool) × Unit)) => M.ret (r86.1.all id)) fun (x87 : Bool) => M.ret (.rt x87))))
noncomputable def m_are_places (a : ((List Int) × (Int × Unit))) : M Bool := M.fin (b_are_places (a.1, (a.2.1, ((), ((), ())))))
theorem ok_are_places (F : Fun K "are_places" "are_places" (topS 23) f fd) (fr : Free mg) (G_is_whole : GD P w K mg base "is_whole" 2 (spOf (aCons rInt aNil) rBl m_is_whole)) : FnOk P w K mg base CX0 3 f fd ["value", "most"] (spOf (aCons (rTpd rInt) (aCons rInt aNil)) rBl m_are_places) := by
  refine F.ok sc_are_places (fun vs H Q E h => spOf_len h) (fun cdv A outer s H vs Q E hr h => ⟨_, (pss_cons (ps_if (PW.pt (pw_or (pt_not (pt_val (pe_callB call_isiU (by rfl) fr.b_isinstance (by decide +kernel) (pa_cons (pv 0) (pa_cons (pe_bltn (v := .ty "tuple") (by rfl) fr.b_tuple (by decide +kernel) rfl) pa_nil))))) (pw_or (pt_not (pt_chain op_le op_le pe_int (pe_callB call_len (by rfl) fr.b_len (by decide +kernel) (pa_cons (pv 0) pa_nil)) (pv 1))) (pw_or1 (pt_not (pt_val (pe_callB (cr_all rfl) (by rfl) fr.b_all (by decide +kernel) (pa_cons (pe_lc (own := [("one", 2)]) (by rfl) sc_are_places.nd  (pi_tup (pv 0)) (blkOk_by (own := [("one", 2)]) (N := ["value", "most", "one", "many"]) (sc := defScope (topS 23)) (by decide +kernel)) (fun _ _ _ _ _ => (pg_name (i := 2) sc_are_places.nd rfl (by first | exact Or.inl rfl | exact Or.inr rfl))) (fun _ _ _ _ _ => pts_nil) (fun _ _ _ _ _ => (pe_c1 G_is_whole (hr.mono (by decide)) (pa_cons (pv 2) pa_nil)))) pa_nil)))))))) (pss_one (ps_ret pe_bl)) pss_nil)
  (pss_cons (ps_if (pt_cmpR (op_neD (hu64 hr) : OpR _ _ (rNeD K)) (pe_callB cr_sortedIT (by rfl) fr.b_sorted (by decide +kernel) (pa_cons (pv 0) pa_nil)) (pe_listRg rfl (by rfl) fr.b_list (prg_1 (by rfl) fr.b_range (pe_callB call_len (by rfl) fr.b_len (by decide +kernel) (pa_cons (pv 0) pa_nil)))) (nomark _)) (pss_one (ps_ret pe_bl)) pss_nil)
  (pss_one (ps_ret (pe_callB (cr_all rfl) (by rfl) fr.b_all (by decide +kernel) (pa_cons (pe_lc (own := [("many", 3)]) (by rfl) sc_are_places.nd  (pi_range2 (by rfl) fr.b_range (pa_cons pe_int (pa_cons (pe_callB call_len (by rfl) fr.b_len (by decide +kernel) (pa_cons (pv 0) pa_nil)) pa_nil))) (blkOk_by (own := [("many", 3)]) (N := ["value", "most", "one", "many"]) (sc := defScope (topS 23)) (by decide +kernel)) (fun _ _ _ _ _ => (pg_name (i := 3) sc_are_places.nd rfl (by first | exact Or.inl rfl | exact Or.inr rfl))) (fun _ _ _ _ _ => pts_nil) (fun _ _ _ _ _ => (pe_cmpR op_ge (pe_callB (cr_maxT (K := K) rfl) (by rfl) fr.b_max (by decide +kernel) (pa_cons (pe_slice (sl_tupA : L2.SlR _ (rSlA K)) (pv 0) po_none (po_some (pv 3))) pa_nil)) (pv 3) (nomark _)))) pa_nil)))))), ?_⟩)
  refine fn_body (X := E) (S := (aCons (rTpd rInt) (aCons rInt aNil))) (E' := eNil) (R := rBl) (st_par (st_par (st_un (st_un st_nil)))) rfl (s_seq (s_if (t_or (t_not (t_b (e_ca (c_isiT (b := true) tr_tup (kit_ty (by decide +kernel))) (a_cons (e_tpd (K := K) (e_var get0)) (a_cons e_tyV a_nil))))) (t_or (t_not (t_of (e_chain (o_ib fun _ _ => rfl) (o_ib fun _ _ => rfl) e_int (e_ca (c_len len_tup) (a_cons (e_tpd (K := K) (e_var get0)) a_nil)) (e_var (getS get0))))) (t_not (t_b (e_ca c_all (a_cons (SN.se (n_lc (i_tup (e_tpd (K := K) (e_var get0))) (gw_name (putS (putS put0))) t_yes (e_call (a_cons (e_var (getS (getS get0))) a_nil)))) a_nil)))))) (s_ret e_bl) s_nil)
  (s_seq (s_if (t_of (e_op (o_neD (da := (fun (xs : (List Int)) => PyData.list (xs.map PyData.int))) (db := (fun (xs : (List Int)) => PyData.list (xs.map PyData.int))) (dp_ls dp_int) (dp_ls dp_int)) (SN.se (n_ca c_sortIT (a_cons (e_tpd (K := K) (e_var get0)) a_nil))) (SN.se (n_listRg1 (e_ca (c_len len_tup) (a_cons (e_tpd (K := K) (e_var get0)) a_nil)))))) (s_ret e_bl) s_nil)
  (s_ret (e_ca c_all (a_cons (SN.se (n_lc (i_rng2 e_int (e_ca (c_len len_tup) (a_cons (e_tpd (K := K) (e_var get0)) a_nil))) (gw_name (putS (putS (putS put0)))) t_yes (e_op (o_ib fun _ _ => rfl) (e_ca c_maxT (a_cons (e_sl sl_T (e_tpd (K := K) (e_var get0)) so_none (so_some (e_var (getS (getS (getS get0)))))) a_nil)) (e_var (getS (getS (getS get0))))))) a_nil))))) ?_
  exact h
theorem sc_is_walked : FnScope ["value"] ["value"] (defScope (topS 24)) := ⟨rfl, rfl, rfl, by decide +kernel, rfl, by decide +kernel, by decide +kernel⟩
noncomputable def b_is_walked (ρ : (Str × Unit)) : M (Ct Unit Unit Bool) := (M.bind (M.bind (M.bind (M.bind (M.ret ρ.1) fun (x90 : Str) => M.bind (M.bind (M.ret ()) fun (x88 : Unit) => M.bind (M.ret ()) fun (x89 : Unit) => M.ret (x88, x89)) fun (x91 : (Unit × Unit)) => M.ret (x90, x91)) fun (r92 : (Str × (Unit × Unit))) => M.ret true) fun (x95 : Bool) => M.ifb x95 (M.bind (M.ret ρ.1) fun (x93 : Str) => M.bind (M.ret [("upper" : Str), ("lower" : Str)]) fun (x94 : (List Str)) => M.ret (decide (x93 ∈ x94))) (M.ret false)) fun (x96 : Bool) => M.ret (.rt x96))
noncomputable def m_is_walked (a : (Str × Unit)) : M Bool := M.fin (b_is_walked (a.1, ()))
theorem ok_is_walked (F : Fun K "is_walked" "is_walked" (topS 24) f fd) (fr : Free mg) (g_WALKED : ∃ a, mg "WALKED" = some (.ref a) ∧ KTS K a [("upper" : Str), ("lower" : Str)]) : FnOk P w K mg base CX0 2 f fd ["value"] (spOf (aCons rStr aNil) rBl m_is_walked) := by
  refine F.ok sc_is_walked (fun vs H Q E h => spOf_len h) (fun cdv A outer s H vs Q E hr h => ⟨_, (pss_one (ps_ret (pe_and (pe_callB call_isiU (by rfl) fr.b_isinstance (by decide +kernel) (pa_cons (pv 0) (pa_cons (pe_bltn (v := .ty "str") (by rfl) fr.b_str (by decide +kernel) rfl) pa_nil))) (pe_one (pe_cmpR op_in_seq (pv 0) (pe_glob (v := .ref g_WALKED.choose) rfl g_WALKED.choose_spec.1 rfl) (by rfl)))))), ?_⟩)
  refine fn_body (X := E) (S := (aCons rStr aNil)) (E' := eNil) (R := rBl) (st_par st_nil) rfl (s_ret (e_and (e_ca (c_isiT (b := true) tr_str (kit_ty (by decide +kernel))) (a_cons (e_var get0) (a_cons e_tyV a_nil))) (e_op (o_in fl_str sq_tup) (e_var get0) (e_kts g_WALKED.choose_spec.2)))) ?_
  exact h
theorem sc_next_places : FnScope ["places", "kind", "last", "greatest", "index", "at", "one"] ["places", "kind"] (defScope (topS 25)) := ⟨rfl, rfl, rfl, by decide +kernel, rfl, by decide +kernel, by decide +kernel⟩
noncomputable def b_next_places (ρ : ((List Int) × (Str × (Unit × (Unit × (Unit × (Unit × (Unit × Unit)))))))) : M (Ct Unit Unit (List Int)) := (M.thn (M.bind (M.bind (M.bind (M.ret ρ.1) fun (x98 : (List Int)) => M.bind (M.bind (M.ret (1 : Int)) fun (x97 : Int) => M.ret (-x97)) fun (x99 : Int) => M.the (atI x98 x99)) fun (x107 : Int) => M.bind (M.bind (M.bind (M.bind (M.bind (M.ret ρ.1) fun (x100 : (List Int)) => M.bind (M.ret ()) fun (x101 : Unit) => M.ret (x100, x101)) fun (r102 : ((List Int) × Unit)) => M.ret (r102.1.length : Int)) fun (x103 : Int) => M.bind (M.ret (1 : Int)) fun (x104 : Int) => M.ret (x103 - x104)) fun (x105 : Int) => M.bind (M.ret ()) fun (x106 : Unit) => M.ret (x105, x106)) fun (x108 : (Int × Unit)) => M.ret (x107, x108)) fun (x110 : (Int × (Int × Unit))) => M.ret (.nx (ρ.1, ρ.2.1, x110.1, x110.2.1, ρ.2.2.2.2.1, ρ.2.2.2.2.2.1, ρ.2.2.2.2.2.2.1, ρ.2.2.2.2.2.2.2))) fun (ρ : ((List Int) × (Str × (Int × (Int × (Unit × (Unit × (Unit × Unit)))))))) => (M.thn (M.bind (M.bind (M.ret ρ.1) fun (x111 : (List Int)) => M.bind (M.ret ρ.2.2.2.1) fun (x112 : Int) => M.need (x112 ∈ x111) (M.ret (List.idxOf x112 x111 : Int))) fun (x113 : Int) => M.ret (.nx (ρ.1, ρ.2.1, ρ.2.2.1, ρ.2.2.2.1, x113, ρ.2.2.2.2.2))) fun (ρ : ((List Int) × (Str × (Int × (Int × (Int × (Unit × (Unit × Unit)))))))) => (M.thn (M.bind (M.bind (M.ret ρ.2.1) fun (x114 : Str) => M.bind (M.ret ("lower" : Str)) fun (x115 : Str) => M.ret (decide (x114 = x115))) fun (x137 : Bool) => M.ifb x137 (M.bind (M.bind (M.bind (M.bind (M.ret ρ.1) fun (x119 : (List Int)) => M.bind (M.ret none) fun (x120 : Option Int) => M.bind (M.bind (M.bind (M.ret ρ.2.2.2.2.1) fun (x116 : Int) => M.bind (M.ret (1 : Int)) fun (x117 : Int) => M.ret (x116 + x117)) fun (x118 : Int) => M.ret (some x118)) fun (x121 : Option Int) => M.ret (cutL x119 x120 x121)) fun (x133 : (List Int)) => M.bind (M.bind (M.ret ρ.2.2.1) fun (x131 : Int) => M.bind (M.bind (M.bind (M.ret ρ.1) fun (x126 : (List Int)) => M.bind (M.bind (M.bind (M.ret ρ.2.2.2.2.1) fun (x122 : Int) => M.bind (M.ret (1 : Int)) fun (x123 : Int) => M.ret (x122 + x123)) fun (x124 : Int) => M.ret (some x124)) fun (x127 : Option Int) => M.bind (M.bind (M.ret ρ.2.2.2.1) fun (x125 : Int) => M.ret (some x125)) fun (x128 : Option Int) => M.ret (cutL x126 x127 x128)) fun (x129 : (List Int)) => M.bind (M.ret []) fun (x130 : List Int) => M.ret (x129 ++ x130)) fun (x132 : List Int) => M.ret (x131 :: x132)) fun (x134 : List Int) => M.ret (x133 ++ x134)) fun (x135 : List Int) => M.need (x135.length ≤ sizeLine) (M.ret x135)) fun (x136 : (List Int)) => M.ret (.rt x136)) (M.ret (.nx ρ))) fun (ρ : ((List Int) × (Str × (Int × (Int × (Int × (Unit × (Unit × Unit)))))))) => (M.bind (M.bind (M.bind (M.bind (M.bind (M.ret ρ.1) fun (x138 : (List Int)) => M.ret (enum0 x138)) fun (l152 : List (Int × (Int × Unit))) => M.need (l152.length ≤ 1000000) (M.lcM l152 fun (a153 : (Int × (Int × Unit))) => M.bind ((fun (ρ : ((List Int) × (Str × (Int × (Int × (Int × (Int × (Int × Unit)))))))) => (M.ret true)) (ρ.1, ρ.2.1, ρ.2.2.1, ρ.2.2.2.1, ρ.2.2.2.2.1, a153.1, a153.2.1, ρ.2.2.2.2.2.2.2)) fun (b154 : Bool) => M.ifb b154 (M.bind ((fun (ρ : ((List Int) × (Str × (Int × (Int × (Int × (Int × (Int × Unit)))))))) => (M.bind (M.bind (M.ret ρ.2.2.2.2.2.1) fun (x139 : Int) => M.bind (M.ret ρ.2.2.2.2.1) fun (x140 : Int) => M.ret (decide (x139 = x140))) fun (x150 : Bool) => M.ifb x150 (M.bind (M.ret ρ.2.2.1) fun (x141 : Int) => M.bind (M.ret (1 : Int)) fun (x142 : Int) => M.ret (x141 + x142)) (M.bind (M.ret ρ.2.2.2.2.2.2.1) fun (x148 : Int) => M.bind (M.bind (M.bind (M.bind (M.ret ρ.2.2.2.2.2.2.1) fun (x143 : Int) => M.bind (M.ret ρ.2.2.1) fun (x144 : Int) => M.ret (decide (x144 < x143))) fun (x145 : Bool) => M.bind (M.ret ()) fun (x146 : Unit) => M.ret (x145, x146)) fun (r147 : (Bool × Unit)) => M.ret (if r147.1 = true then 1 else 0)) fun (x149 : Int) => M.ret (x148 + x149)))) (ρ.1, ρ.2.1, ρ.2.2.1, ρ.2.2.2.1, ρ.2.2.2.2.1, a153.1, a153.2.1, ρ.2.2.2.2.2.2.2)) fun (y155 : Int) => M.ret (some y155)) (M.ret none))) fun (x156 : (List Int)) => M.bind (M.ret ()) fun (x157 : Unit) => M.ret (x156, x157)) fun (r158 : ((List Int) × Unit)) => M.ret r158.1) fun (x159 : (List Int)) => M.ret (.rt x159)))))
noncomputable def m_next_places (a : ((List Int) × (Str × Unit))) : M (List Int) := M.fin (b_next_places (a.1, (a.2.1, ((), ((), ((), ((), ((), ()))))))))
theorem ok_next_places (F : Fun K "next_places" "next_places" (topS 25) f fd) (fr : Free mg) : FnOk P w K mg base CX0 2 f fd ["places", "kind"] (spOf (aCons (rTpd rInt) (aCons rStr aNil)) (rTpd rInt) m_next_places) := by
  refine F.ok sc_next_places (fun vs H Q E h => spOf_len h) (fun cdv A outer s H vs Q E hr h => ⟨_, (pss_cons (ps_asg (pe_tup (pa_cons (pe_ix (ix_tup : IxR _ (rIxT K)) (pv 0) (pe_un un_neg pe_int) (fun _ _ => rfl)) (pa_cons (pe_op op_sub (pe_callB call_len (by rfl) fr.b_len (by decide +kernel) (pa_cons (pv 0) pa_nil)) pe_int) pa_nil))) (pg_tup (by rfl) (pgs_cons (pg_name (i := 2) sc_next_places.nd rfl (by first | exact Or.inl rfl | exact Or.inr rfl)) (pgs_cons (pg_name (i := 3) sc_next_places.nd rfl (by first | exact Or.inl rfl | exact Or.inr rfl)) pgs_nil))))
  (pss_cons (ps_set (i := 4) sc_next_places.nd rfl (by first | exact Or.inl rfl | exact Or.inr rfl) (pe_tIdx (K := K) (pv 0) (pv 3)))
  (pss_cons (ps_if (pt_cmpR op_eq (pv 1) pe_str (nomark _)) (pss_one (ps_ret (pe_tupD (StX.pa_star (pe_slice sl_tupA (pv 0) po_none (po_some (pe_op op_add (pv 4) pe_int))) (pa_cons (pv 2) (StX.pa_star (pe_slice sl_tupA (pv 0) (po_some (pe_op op_add (pv 4) pe_int)) (po_some (pv 3))) pa_nil)))))) pss_nil)
  (pss_one (ps_ret (pe_callTy call_tuple_ofD (by rfl) fr.b_tuple (by decide +kernel) (pa_cons (pe_lc (own := [("at", 5), ("one", 6)]) (g := gTup K 2 (gCons (gName 5) (gCons (gName 6) gNil))) (by rfl) sc_next_places.nd  (pi_enT (by rfl) fr.b_enumerate (pa_cons (pv 0) pa_nil)) (blkOk_by (own := [("at", 5), ("one", 6)]) (N := ["places", "kind", "last", "greatest", "index", "at", "one"]) (sc := defScope (topS 25)) (by decide +kernel)) (fun _ _ _ _ _ => (pg_tup (by rfl) (pgs_cons (pg_name (i := 5) sc_next_places.nd rfl (by first | exact Or.inl rfl | exact Or.inr rfl)) (pgs_cons (pg_name (i := 6) sc_next_places.nd rfl (by first | exact Or.inl rfl | exact Or.inr rfl)) pgs_nil)))) (fun _ _ _ _ _ => pts_nil) (fun _ _ _ _ _ => (pe_ifExp (pt_cmpR op_eq (pv 5) (pv 4) (nomark _)) (pe_op op_add (pv 2) pe_int) (pe_op op_add (pv 6) (pe_callTy call_int1 (by rfl) fr.b_int (by decide +kernel) (pa_cons (pe_cmpR op_gt (pv 6) (pv 2) (nomark _)) pa_nil)))))) pa_nil))))))), ?_⟩)
  refine fn_body (X := E) (S := (aCons (rTpd rInt) (aCons rStr aNil))) (E' := eNil) (R := (rTpd rInt)) (st_par (st_par (st_un (st_un (st_un (st_un (st_un st_nil))))))) rfl (s_seq (s_asg (e_tup (a_cons (e_op o_ixT (e_tpd (K := K) (e_var get0)) (e_un (u_ii fun _ => rfl) e_int)) (a_cons (e_op (o_ii fun _ _ => rfl) (e_ca (c_len len_tup) (a_cons (e_tpd (K := K) (e_var get0)) a_nil)) e_int) a_nil)) (le_n 2)) (g_tup (gs_cons (g_name (putS (putS put0))) (gs_cons (g_name (putS (putS (putS put0)))) gs_nil)) rfl))
  (s_seq (s_asg (e_indexIT (K := K) (e_var get0) (e_var (getS (getS (getS get0))))) (g_name (putS (putS (putS (putS put0))))))
  (s_seq (s_if (t_of (e_op (o_eq sc_str) (e_var (getS get0)) e_str)) (s_ret (e_tupLD (al_starT (e_sl sl_T (e_tpd (K := K) (e_var get0)) so_none (so_some (e_op (o_ii fun _ _ => rfl) (e_var (getS (getS (getS (getS get0))))) e_int))) (al_cons (e_var (getS (getS get0))) (al_starT (e_sl sl_T (e_tpd (K := K) (e_var get0)) (so_some (e_op (o_ii fun _ _ => rfl) (e_var (getS (getS (getS (getS get0))))) e_int)) (so_some (e_var (getS (getS (getS get0)))))) al_nil))))) s_nil)
  (s_ret (e_ca c_tupLD (a_cons (SN.se (n_lc (i_enT (e_tpd (K := K) (e_var get0))) (gw_two (by decide) (putS (putS (putS (putS (putS put0))))) (putS (putS (putS (putS (putS (putS put0))))))) t_yes (e_if (t_of (e_op (o_eq sc_int) (e_var (getS (getS (getS (getS (getS get0)))))) (e_var (getS (getS (getS (getS get0))))))) (e_op (o_ii fun _ _ => rfl) (e_var (getS (getS get0))) e_int) (e_op (o_ii fun _ _ => rfl) (e_var (getS (getS (getS (getS (getS (getS get0))))))) (e_ca c_intB (a_cons (e_op (o_ib fun _ _ => rfl) (e_var (getS (getS (getS (getS (getS (getS get0))))))) (e_var (getS (getS get0)))) a_nil)))))) a_nil)))))) ?_
  exact h
theorem sc_moved : FnScope ["places", "kind"] ["places", "kind"] (defScope (topS 26)) := ⟨rfl, rfl, rfl, by decide +kernel, rfl, by decide +kernel, by decide +kernel⟩
noncomputable def b_moved (ρ : ((List Int) × (Str × Unit))) : M (Ct Unit Unit (List Int)) := (M.thn (M.bind (M.bind (M.bind (M.bind (M.ret ρ.1) fun (x162 : (List Int)) => M.bind (M.bind (M.ret (40 : Int)) fun (x160 : Int) => M.bind (M.ret ()) fun (x161 : Unit) => M.ret (x160, x161)) fun (x163 : (Int × Unit)) => M.ret (x162, x163)) fun (r164 : ((List Int) × (Int × Unit))) => M.still (m_are_places r164)) fun (x165 : Bool) => M.ret (!x165)) fun (x166 : Bool) => M.ifb x166 M.none (M.ret (.nx ρ))) fun (ρ : ((List Int) × (Str × Unit))) => (M.thn (M.bind (M.bind (M.bind (M.bind (M.ret ρ.2.1) fun (x167 : Str) => M.bind (M.ret ()) fun (x168 : Unit) => M.ret (x167, x168)) fun (r169 : (Str × Unit)) => M.still (m_is_walked r169)) fun (x170 : Bool) => M.ret (!x170)) fun (x171 : Bool) => M.ifb x171 M.none (M.ret (.nx ρ))) fun (ρ : ((List Int) × (Str × Unit))) => (M.bind (M.bind (M.bind (M.ret ρ.1) fun (x174 : (List Int)) => M.bind (M.bind (M.ret ρ.2.1) fun (x172 : Str) => M.bind (M.ret ()) fun (x173 : Unit) => M.ret (x172, x173)) fun (x175 : (Str × Unit)) => M.ret (x174, x175)) fun (r176 : ((List Int) × (Str × Unit))) => M.still (m_next_places r176)) fun (x177 : (List Int)) => M.ret (.rt x177))))
noncomputable def m_moved (a : ((List Int) × (Str × Unit))) : M (List Int) := M.fin (b_moved (a.1, (a.2.1, ())))
theorem ok_moved (F : Fun K "moved" "moved" (topS 26) f fd) (g_MAX_PLACES : ∃ tk, mg "MAX_PLACES" = some (.int 40 tk)) (G_are_places : GD P w K mg base "are_places" 3 (spOf (aCons (rTpd rInt) (aCons rInt aNil)) rBl m_are_places)) (G_is_walked : GD P w K mg base "is_walked" 2 (spOf (aCons rStr aNil) rBl m_is_walked)) (G_next_places : GD P w K mg base "next_places" 2 (spOf (aCons (rTpd rInt) (aCons rStr aNil)) (rTpd rInt) m_next_places)) : FnOk P w K mg base CX0 4 f fd ["places", "kind"] (spOf (aCons (rTpd rInt) (aCons rStr aNil)) (rTpd rInt) m_moved) := by
  refine F.ok sc_moved (fun vs H Q E h => spOf_len h) (fun cdv A outer s H vs Q E hr h => ⟨_, (pss_cons (ps_if (pt_not (pt_val (pe_c1 G_are_places (hr.mono (by decide)) (pa_cons (pv 0) (pa_cons (pe_glob (v := .int 40) rfl g_MAX_PLACES.choose_spec ⟨_, rfl⟩) pa_nil))))) (pss_one ps_never) pss_nil)
  (pss_cons (ps_if (pt_not (pt_val (pe_c1 G_is_walked (hr.mono (by decide)) (pa_cons (pv 1) pa_nil)))) (pss_one ps_never) pss_nil)
  (pss_one (ps_ret (pe_c1 G_next_places (hr.mono (by decide)) (pa_cons (pv 0) (pa_cons (pv 1) pa_nil))))))), ?_⟩)
  refine fn_body (X := E) (S := (aCons (rTpd rInt) (aCons rStr aNil))) (E' := eNil) (R := (rTpd rInt)) (st_par (st_par st_nil)) rfl (s_seq (s_if (t_not (t_b (e_call (a_cons (e_var get0) (a_cons e_int a_nil))))) s_never s_nil)
  (s_seq (s_if (t_not (t_b (e_call (a_cons (e_var (getS get0)) a_nil)))) s_never s_nil)
  (s_ret (e_call (a_cons (e_var get0) (a_cons (e_var (getS get0)) a_nil)))))) ?_
  exact h
theorem sc_are_whole_rows : FnScope ["upper", "lower", "places", "greatest", "at", "name"] ["upper", "lower"] (defScope (topS 33)) := ⟨rfl, rfl, rfl, by decide +kernel, rfl, by decide +kernel, by decide +kernel⟩
noncomputable def b_are_whole_rows (ρ : ((List Str) × ((List Str) × (Unit × (Unit × (Unit × (Unit × Unit))))))) : M (Ct Unit Unit Bool) := (M.thn (M.bind (M.bind (M.bind (M.ret ρ.2.1) fun (x178 : (List Str)) => M.ret (enum0 x178)) fun (l179 : List (Int × (Str × Unit))) => M.need (l179.length ≤ 1000000) (M.bind (M.lcM l179 fun (a180 : (Int × (Str × Unit))) => M.bind ((fun (ρ : ((List Str) × ((List Str) × (Unit × (Unit × (Int × (Str × Unit))))))) => (M.ret true)) (ρ.1, ρ.2.1, ρ.2.2.1, ρ.2.2.2.1, a180.1, a180.2.1, ρ.2.2.2.2.2.2)) fun (b181 : Bool) => M.ifb b181 (M.bind ((fun (ρ : ((List Str) × ((List Str) × (Unit × (Unit × (Int × (Str × Unit))))))) => (M.ret ρ.2.2.2.2.2.1)) (ρ.1, ρ.2.1, ρ.2.2.1, ρ.2.2.2.1, a180.1, a180.2.1, ρ.2.2.2.2.2.2)) fun (y182 : Str) => M.bind ((fun (ρ : ((List Str) × ((List Str) × (Unit × (Unit × (Int × (Str × Unit))))))) => (M.ret ρ.2.2.2.2.1)) (ρ.1, ρ.2.1, ρ.2.2.1, ρ.2.2.2.1, a180.1, a180.2.1, ρ.2.2.2.2.2.2)) fun (z183 : Int) => M.ret (some (y182, z183))) (M.ret none)) fun (p184 : List (Str × Int)) => M.ret (dmerge [] p184))) fun (x186 : (List (Str × Int))) => M.bind (M.bind (M.ret (1 : Int)) fun (x185 : Int) => M.ret (-x185)) fun (x187 : Int) => M.ret (.nx (ρ.1, ρ.2.1, x186, x187, ρ.2.2.2.2.1, ρ.2.2.2.2.2.1, ρ.2.2.2.2.2.2))) fun (ρ : ((List Str) × ((List Str) × ((List (Str × Int)) × (Int × (Unit × (Unit × Unit))))))) => (M.thn (M.bind (M.bind (M.bind (M.ret ρ.1) fun (x190 : (List Str)) => M.bind (M.ret none) fun (x191 : Option Int) => M.bind (M.bind (M.bind (M.ret (1 : Int)) fun (x188 : Int) => M.ret (-x188)) fun (x189 : Int) => M.ret (some x189)) fun (x192 : Option Int) => M.ret (cutL x190 x191 x192)) fun (x193 : (List Str)) => M.ret (enum0 x193)) fun (l207 : List (Int × (Str × Unit))) => M.forM l207 (fun (a194 : (Int × (Str × Unit))) (ρ : ((List Str) × ((List Str) × ((List (Str × Int)) × (Int × (Unit × (Unit × Unit))))))) => (fun (ρ : ((List Str) × ((List Str) × ((List (Str × Int)) × (Int × (Int × (Str × Unit))))))) => (M.thn (M.thn (M.bind (M.bind (M.bind (M.ret ρ.2.2.2.1) fun (x199 : Int) => M.bind (M.bind (M.bind (M.ret ρ.2.2.1) fun (x195 : (List (Str × Int))) => M.bind (M.ret ρ.2.2.2.2.2.1) fun (x196 : Str) => M.the (dget x195 x196)) fun (x197 : Int) => M.bind (M.ret ()) fun (x198 : Unit) => M.ret (x197, x198)) fun (x200 : (Int × Unit)) => M.ret (x199, x200)) fun (r201 : (Int × (Int × Unit))) => M.ret (if r201.2.1 > r201.1 then r201.2.1 else r201.1)) fun (x202 : Int) => M.ret (.nx (ρ.1, ρ.2.1, ρ.2.2.1, x202, ρ.2.2.2.2))) fun (ρ : ((List Str) × ((List Str) × ((List (Str × Int)) × (Int × (Int × (Str × Unit))))))) => (M.bind (M.bind (M.ret ρ.2.2.2.1) fun (x203 : Int) => M.bind (M.ret ρ.2.2.2.2.1) fun (x204 : Int) => M.ret (decide (x203 = x204))) fun (x206 : Bool) => M.ifb x206 (M.bind (M.ret false) fun (x205 : Bool) => M.ret (.rt x205)) (M.ret (.nx ρ)))) fun (ρ : ((List Str) × ((List Str) × ((List (Str × Int)) × (Int × (Int × (Str × Unit))))))) => M.ret (.nx (ρ.1, ρ.2.1, ρ.2.2.1, ρ.2.2.2.1, (), (), ρ.2.2.2.2.2.2)))) (ρ.1, ρ.2.1, ρ.2.2.1, ρ.2.2.2.1, a194.1, a194.2.1, ρ.2.2.2.2.2.2)) ρ) fun (ρ : ((List Str) × ((List Str) × ((List (Str × Int)) × (Int × (Unit × (Unit × Unit))))))) => (M.bind (M.bind (M.bind (M.bind (M.ret ρ.1) fun (x208 : (List Str)) => M.bind (M.ret ()) fun (x209 : Unit) => M.ret (x208, x209)) fun (r210 : ((List Str) × Unit)) => M.ret (r210.1.length : Int)) fun (x211 : Int) => M.bind (M.ret (1 : Int)) fun (x212 : Int) => M.ret (decide (x212 < x211))) fun (x213 : Bool) => M.ret (.rt x213))))
noncomputable def m_are_whole_rows (a : ((List Str) × ((List Str) × Unit))) : M Bool := M.fin (b_are_whole_rows (a.1, (a.2.1, ((), ((), ((), ((), ())))))))
theorem ok_are_whole_rows (F : Fun K "are_whole_rows" "are_whole_rows" (topS 33) f fd) (fr : Free mg) : FnOk P w K mg base CX0 2 f fd ["upper", "lower"] (spOf (aCons (rTup K rStr) (aCons (rTup K rStr) aNil)) rBl m_are_whole_rows) := by
  refine F.ok sc_are_whole_rows (fun vs H Q E h => spOf_len h) (fun cdv A outer s H vs Q E hr h => ⟨_, (pss_cons (ps_par (i := 2) (j := 3) (by rfl) sc_are_whole_rows.nd rfl rfl (by decide) rfl rfl (pa_cons (pe_lk (pe_dc (own := [("at", 4), ("name", 5)]) (g := gTup K 2 (gCons (gName 4) (gCons (gName 5) gNil))) (by rfl) sc_are_whole_rows.nd  (pi_enT (by rfl) fr.b_enumerate (pa_cons (pv 1) pa_nil)) (blkOk_by (own := [("at", 4), ("name", 5)]) (N := ["upper", "lower", "places", "greatest", "at", "name"]) (sc := defScope (topS 33)) (by decide +kernel)) (fun _ _ _ _ _ => (pg_tup (by rfl) (pgs_cons (pg_name (i := 4) sc_are_whole_rows.nd rfl (by first | exact Or.inl rfl | exact Or.inr rfl)) (pgs_cons (pg_name (i := 5) sc_are_whole_rows.nd rfl (by first | exact Or.inl rfl | exact Or.inr rfl)) pgs_nil)))) (fun _ _ _ _ _ => pts_nil) (fun _ _ _ _ _ => (pv 5)) (fun _ _ _ _ _ => (pv 4)))) (pa_cons (pe_un un_neg pe_int) pa_nil)) (by rfl))
  (pss_cons (ps_for PassesOwn.never rfl (pi_enT (by rfl) fr.b_enumerate (pa_cons (pe_slice sl_tupA (pv 0) po_none (po_some (pe_un un_neg pe_int))) pa_nil)) (pg_tup (by rfl) (pgs_cons (pg_name (i := 4) sc_are_whole_rows.nd rfl (by first | exact Or.inl rfl | exact Or.inr rfl)) (pgs_cons (pg_name (i := 5) sc_are_whole_rows.nd rfl (by first | exact Or.inl rfl | exact Or.inr rfl)) pgs_nil))) (pss_cons (ps_set (i := 3) sc_are_whole_rows.nd rfl (by first | exact Or.inl rfl | exact Or.inr rfl) (pe_callB (call_max2 rfl) (by rfl) fr.b_max (by decide +kernel) (pa_cons (pv 3) (pa_cons (pe_dget (hu_of hr) (pv 2) (pv 5) (fun _ _ => rfl)) pa_nil))))
  (pss_one (ps_if (pt_cmpR op_eq (pv 3) (pv 4) (nomark _)) (pss_one (ps_ret pe_bl)) pss_nil))))
  (pss_one (ps_ret (pe_cmpR op_gt (pe_callB call_len (by rfl) fr.b_len (by decide +kernel) (pa_cons (pv 0) pa_nil)) pe_int (nomark _)))))), ?_⟩)
  refine fn_body (X := E) (S := (aCons (rTup K rStr) (aCons (rTup K rStr) aNil))) (E' := eNil) (R := rBl) (st_par (st_par (st_un (st_un (st_un (st_un st_nil)))))) rfl (s_seq (s_parV (sv_e (e_dc ky_str (i_enT (e_var (getS get0))) (gw_two (by decide) (putS (putS (putS (putS put0)))) (putS (putS (putS (putS (putS put0)))))) t_yes (e_var (getS (getS (getS (getS (getS get0)))))) (e_var (getS (getS (getS (getS get0))))))) (sv_e (e_un (u_ii fun _ => rfl) e_int)) (putS (putS put0)) (putS (putS (putS put0))))
  (s_seq (s_for (i_enT (e_sl sl_T (e_var get0) so_none (so_some (e_un (u_ii fun _ => rfl) e_int)))) (g_tup (gs_cons (g_name (putS (putS (putS (putS put0))))) (gs_cons (g_name (putS (putS (putS (putS (putS put0)))))) gs_nil)) rfl) (s_post (s_seq (s_asg (e_ca c_max2 (a_cons (e_var (getS (getS (getS get0)))) (a_cons (e_dget ky_str (e_var (getS (getS get0))) (e_var (getS (getS (getS (getS (getS get0))))))) a_nil))) (g_name (putS (putS (putS put0)))))
  (s_if (t_of (e_op (o_eq sc_int) (e_var (getS (getS (getS get0)))) (e_var (getS (getS (getS (getS get0))))))) (s_ret e_bl) s_nil)) (wk_fg (fg_keep (fg_keep (fg_keep (fg_keep (fg_un (fg_un fg_nil)))))))))
  (s_ret (e_op (o_ib fun _ _ => rfl) (e_ca (c_len len_tup) (a_cons (e_var get0) a_nil)) e_int)))) ?_
  exact h
theorem sc_put_behind : FnScope ["row", "name", "other", "left", "one", "at"] ["row", "name", "other"] (defScope (topS 34)) := ⟨rfl, rfl, rfl, by decide +kernel, rfl, by decide +kernel, by decide +kernel⟩
noncomputable def b_put_behind (ρ : ((List Str) × (Str × (Str × (Unit × (Unit × (Unit × Unit))))))) : M (Ct Unit Unit (List Str)) := (M.thn (M.bind (M.bind (M.ret ρ.1) fun (l217 : List Str) => M.need (l217.length ≤ 1000000) (M.lcM l217 fun (a218 : Str) => M.bind ((fun (ρ : ((List Str) × (Str × (Str × (Unit × (Str × (Unit × Unit))))))) => (M.bind (M.ret ρ.2.2.2.2.1) fun (x214 : Str) => M.bind (M.ret ρ.2.1) fun (x215 : Str) => M.ret (!decide (x214 = x215)))) (ρ.1, ρ.2.1, ρ.2.2.1, ρ.2.2.2.1, a218, ρ.2.2.2.2.2)) fun (b219 : Bool) => M.ifb b219 (M.bind ((fun (ρ : ((List Str) × (Str × (Str × (Unit × (Str × (Unit × Unit))))))) => (M.ret ρ.2.2.2.2.1)) (ρ.1, ρ.2.1, ρ.2.2.1, ρ.2.2.2.1, a218, ρ.2.2.2.2.2)) fun (y220 : Str) => M.ret (some y220)) (M.ret none))) fun (x221 : (List Str)) => M.ret (.nx (ρ.1, ρ.2.1, ρ.2.2.1, x221, ρ.2.2.2.2))) fun (ρ : ((List Str) × (Str × (Str × ((List Str) × (Unit × (Unit × Unit))))))) => (M.thn (M.bind (M.bind (M.bind (M.ret ρ.2.2.2.1) fun (x222 : (List Str)) => M.bind (M.ret ρ.2.2.1) fun (x223 : Str) => M.need (x223 ∈ x222) (M.ret (List.idxOf x223 x222 : Int))) fun (x224 : Int) => M.bind (M.ret (1 : Int)) fun (x225 : Int) => M.ret (x224 + x225)) fun (x226 : Int) => M.ret (.nx (ρ.1, ρ.2.1, ρ.2.2.1, ρ.2.2.2.1, ρ.2.2.2.2.1, x226, ρ.2.2.2.2.2.2))) fun (ρ : ((List Str) × (Str × (Str × ((List Str) × (Unit × (Int × Unit))))))) => (M.bind (M.bind (M.bind (M.bind (M.ret ρ.2.2.2.1) fun (x228 : (List Str)) => M.bind (M.ret none) fun (x229 : Option Int) => M.bind (M.bind (M.ret ρ.2.2.2.2.2.1) fun (x227 : Int) => M.ret (some x227)) fun (x230 : Option Int) => M.ret (cutL x228 x229 x230)) fun (x239 : (List Str)) => M.bind (M.bind (M.ret ρ.2.1) fun (x237 : Str) => M.bind (M.bind (M.bind (M.ret ρ.2.2.2.1) fun (x232 : (List Str)) => M.bind (M.bind (M.ret ρ.2.2.2.2.2.1) fun (x231 : Int) => M.ret (some x231)) fun (x233 : Option Int) => M.bind (M.ret none) fun (x234 : Option Int) => M.ret (cutL x232 x233 x234)) fun (x235 : (List Str)) => M.bind (M.ret []) fun (x236 : List Str) => M.ret (x235 ++ x236)) fun (x238 : List Str) => M.ret (x237 :: x238)) fun (x240 : List Str) => M.ret (x239 ++ x240)) fun (x241 : List Str) => M.need (x241.length ≤ sizeLine) (M.ret x241)) fun (x242 : (List Str)) => M.ret (.rt x242))))
noncomputable def m_put_behind (a : ((List Str) × (Str × (Str × Unit)))) : M (List Str) := M.fin (b_put_behind (a.1, (a.2.1, (a.2.2.1, ((), ((), ((), ())))))))
theorem ok_put_behind (F : Fun K "put_behind" "put_behind" (topS 34) f fd)  : FnOk P w K mg base CX0 2 f fd ["row", "name", "other"] (spOf (aCons (rTup K rStr) (aCons rStr (aCons rStr aNil))) (rTup K rStr) m_put_behind) := by
  refine F.ok sc_put_behind (fun vs H Q E h => spOf_len h) (fun cdv A outer s H vs Q E hr h => ⟨_, (pss_cons (ps_setLc (i := 3) (own := [("one", 4)]) (by rfl) sc_put_behind.nd rfl rfl (sw_true rfl rfl rfl (by decide +kernel)) (pi_tup (pv 0)) (blkOk_by (own := [("one", 4)]) (N := ["row", "name", "other", "left", "one", "at"]) (sc := defScope (topS 34)) (by decide +kernel)) (fun _ _ _ _ _ => (pg_name (i := 4) sc_put_behind.nd rfl (by first | exact Or.inl rfl | exact Or.inr rfl))) (fun _ _ _ _ _ => (pts_one (pt_cmpR op_ne (pv 4) (pv 1) (nomark _)))) (fun _ _ _ _ _ => (pv 4)))
  (pss_cons (ps_set (i := 5) sc_put_behind.nd rfl (by first | exact Or.inl rfl | exact Or.inr rfl) (pe_op op_add (pe_bm PySem.F.plainAttrs_list PySem.F.slot_list_index PySem.F.type_list_index (mt_index : MtR _ _ (rIndex K)) (pv 3) (pa_cons (pv 2) pa_nil)) pe_int))
  (pss_one (ps_ret (pe_tup (StX.pa_star (pe_slice sl_list (pv 3) po_none (po_some (pv 5))) (pa_cons (pv 1) (StX.pa_star (pe_slice sl_list (pv 3) (po_some (pv 5)) po_none) pa_nil)))))))), ?_⟩)
  refine fn_body (X := E) (S := (aCons (rTup K rStr) (aCons rStr (aCons rStr aNil)))) (E' := eNil) (R := (rTup K rStr)) (st_par (st_par (st_par (st_un (st_un (st_un st_nil)))))) rfl (s_seq (s_asg (SN.se (n_lc (i_tup (e_var get0)) (gw_name (putS (putS (putS (putS put0))))) (t_of (e_op (o_ne sc_str) (e_var (getS (getS (getS (getS get0))))) (e_var (getS get0)))) (e_var (getS (getS (getS (getS get0))))))) (g_name (putS (putS (putS put0)))))
  (s_seq (s_asg (e_op (o_ii fun _ _ => rfl) (e_index fl_str (e_var (getS (getS (getS get0)))) (e_var (getS (getS get0)))) e_int) (g_name (putS (putS (putS (putS (putS put0)))))))
  (s_ret (e_tupL (al_starL (SN.se (n_sl sl_L (e_var (getS (getS (getS get0)))) so_none (so_some (e_var (getS (getS (getS (getS (getS get0))))))))) (al_cons (e_var (getS get0)) (al_starL (SN.se (n_sl sl_L (e_var (getS (getS (getS get0)))) (so_some (e_var (getS (getS (getS (getS (getS get0))))))) so_none)) al_nil))))))) ?_
  exact h
theorem sc_led_rows : FnScope ["upper", "lower", "kind", "above", "below", "name"] ["upper", "lower", "kind"] (defScope (topS 35)) := ⟨rfl, rfl, rfl, by decide +kernel, rfl, by decide +kernel, by decide +kernel⟩
noncomputable def b_led_rows (ρ : ((List Str) × ((List Str) × (Str × (Unit × (Unit × (Unit × Unit))))))) : M (Ct Unit Unit ((List Str) × ((List Str) × Unit))) := (M.thn (M.bind (M.bind (M.bind (M.ret ρ.1) fun (x244 : (List Str)) => M.bind (M.bind (M.ret (1 : Int)) fun (x243 : Int) => M.ret (-x243)) fun (x245 : Int) => M.the (atI x244 x245)) fun (x251 : Str) => M.bind (M.bind (M.bind (M.ret ρ.2.1) fun (x247 : (List Str)) => M.bind (M.bind (M.ret (1 : Int)) fun (x246 : Int) => M.ret (-x246)) fun (x248 : Int) => M.the (atI x247 x248)) fun (x249 : Str) => M.bind (M.ret ()) fun (x250 : Unit) => M.ret (x249, x250)) fun (x252 : (Str × Unit)) => M.ret (x251, x252)) fun (x254 : (Str × (Str × Unit))) => M.ret (.nx (ρ.1, ρ.2.1, ρ.2.2.1, x254.1, x254.2.1, ρ.2.2.2.2.2.1, ρ.2.2.2.2.2.2))) fun (ρ : ((List Str) × ((List Str) × (Str × (Str × (Str × (Unit × Unit))))))) => (M.thn (M.bind (M.bind (M.ret ρ.2.2.1) fun (x255 : Str) => M.bind (M.ret ("upper" : Str)) fun (x256 : Str) => M.ret (decide (x255 = x256))) fun (x270 : Bool) => M.ifb x270 (M.bind (M.bind (M.ret ρ.1) fun (x266 : (List Str)) => M.bind (M.bind (M.bind (M.bind (M.ret ρ.2.1) fun (x261 : (List Str)) => M.bind (M.bind (M.ret ρ.2.2.2.2.1) fun (x259 : Str) => M.bind (M.bind (M.ret ρ.2.2.2.1) fun (x257 : Str) => M.bind (M.ret ()) fun (x258 : Unit) => M.ret (x257, x258)) fun (x260 : (Str × Unit)) => M.ret (x259, x260)) fun (x262 : (Str × (Str × Unit))) => M.ret (x261, x262)) fun (r263 : ((List Str) × (Str × (Str × Unit)))) => M.still (m_put_behind r263)) fun (x264 : (List Str)) => M.bind (M.ret ()) fun (x265 : Unit) => M.ret (x264, x265)) fun (x267 : ((List Str) × Unit)) => M.ret (x266, x267)) fun (x269 : ((List Str) × ((List Str) × Unit))) => M.ret (.rt x269)) (M.ret (.nx ρ))) fun (ρ : ((List Str) × ((List Str) × (Str × (Str × (Str × (Unit × Unit))))))) => (M.thn (M.bind (M.bind (M.ret ρ.2.2.1) fun (x271 : Str) => M.bind (M.ret ("lower" : Str)) fun (x272 : Str) => M.ret (decide (x271 = x272))) fun (x286 : Bool) => M.ifb x286 (M.bind (M.bind (M.bind (M.bind (M.ret ρ.1) fun (x277 : (List Str)) => M.bind (M.bind (M.ret ρ.2.2.2.1) fun (x275 : Str) => M.bind (M.bind (M.ret ρ.2.2.2.2.1) fun (x273 : Str) => M.bind (M.ret ()) fun (x274 : Unit) => M.ret (x273, x274)) fun (x276 : (Str × Unit)) => M.ret (x275, x276)) fun (x278 : (Str × (Str × Unit))) => M.ret (x277, x278)) fun (r279 : ((List Str) × (Str × (Str × Unit)))) => M.still (m_put_behind r279)) fun (x282 : (List Str)) => M.bind (M.bind (M.ret ρ.2.1) fun (x280 : (List Str)) => M.bind (M.ret ()) fun (x281 : Unit) => M.ret (x280, x281)) fun (x283 : ((List Str) × Unit)) => M.ret (x282, x283)) fun (x285 : ((List Str) × ((List Str) × Unit))) => M.ret (.rt x285)) (M.ret (.nx ρ))) fun (ρ : ((List Str) × ((List Str) × (Str × (Str × (Str × (Unit × Unit))))))) => (M.bind (M.bind (M.bind (M.ret ρ.1) fun (x289 : (List Str)) => M.bind (M.ret none) fun (x290 : Option Int) => M.bind (M.bind (M.bind (M.ret (1 : Int)) fun (x287 : Int) => M.ret (-x287)) fun (x288 : Int) => M.ret (some x288)) fun (x291 : Option Int) => M.ret (cutL x289 x290 x291)) fun (x310 : (List Str)) => M.bind (M.bind (M.bind (M.bind (M.bind (M.bind (M.ret ρ.2.1) fun (x294 : (List Str)) => M.bind (M.ret none) fun (x295 : Option Int) => M.bind (M.bind (M.bind (M.ret (1 : Int)) fun (x292 : Int) => M.ret (-x292)) fun (x293 : Int) => M.ret (some x293)) fun (x296 : Option Int) => M.ret (cutL x294 x295 x296)) fun (l301 : List Str) => M.need (l301.length ≤ 1000000) (M.lcM l301 fun (a302 : Str) => M.bind ((fun (ρ : ((List Str) × ((List Str) × (Str × (Str × (Str × (Str × Unit))))))) => (M.ret true)) (ρ.1, ρ.2.1, ρ.2.2.1, ρ.2.2.2.1, ρ.2.2.2.2.1, a302, ρ.2.2.2.2.2.2)) fun (b303 : Bool) => M.ifb b303 (M.bind ((fun (ρ : ((List Str) × ((List Str) × (Str × (Str × (Str × (Str × Unit))))))) => (M.bind (M.bind (M.ret ρ.2.2.2.2.2.1) fun (x297 : Str) => M.bind (M.ret ρ.2.2.2.1) fun (x298 : Str) => M.ret (decide (x297 = x298))) fun (x299 : Bool) => M.ifb x299 (M.ret ρ.2.2.2.2.1) (M.ret ρ.2.2.2.2.2.1))) (ρ.1, ρ.2.1, ρ.2.2.1, ρ.2.2.2.1, ρ.2.2.2.2.1, a302, ρ.2.2.2.2.2.2)) fun (y304 : Str) => M.ret (some y304)) (M.ret none))) fun (x305 : (List Str)) => M.bind (M.ret ()) fun (x306 : Unit) => M.ret (x305, x306)) fun (r307 : ((List Str) × Unit)) => M.ret r307.1) fun (x308 : (List Str)) => M.bind (M.ret ()) fun (x309 : Unit) => M.ret (x308, x309)) fun (x311 : ((List Str) × Unit)) => M.ret (x310, x311)) fun (x313 : ((List Str) × ((List Str) × Unit))) => M.ret (.rt x313)))))
noncomputable def m_led_rows (a : ((List Str) × ((List Str) × (Str × Unit)))) : M ((List Str) × ((List Str) × Unit)) := M.fin (b_led_rows (a.1, (a.2.1, (a.2.2.1, ((), ((), ((), ())))))))
theorem ok_led_rows (F : Fun K "led_rows" "led_rows" (topS 35) f fd) (g_UPPER : ∃ tk, mg "UPPER" = some (.str "upper" tk)) (G_put_behind : GD P w K mg base "put_behind" 2 (spOf (aCons (rTup K rStr) (aCons rStr (aCons rStr aNil))) (rTup K rStr) m_put_behind)) (g_LOWER : ∃ tk, mg "LOWER" = some (.str "lower" tk)) (fr : Free mg) : FnOk P w K mg base CX0 3 f fd ["upper", "lower", "kind"] (spOf (aCons (rTup K rStr) (aCons (rTup K rStr) (aCons rStr aNil))) (rTx K (aCons (rTup K rStr) (aCons (rTup K rStr) aNil))) m_led_rows) := by
  refine F.ok sc_led_rows (fun vs H Q E h => spOf_len h) (fun cdv A outer s H vs Q E hr h => ⟨_, (pss_cons (ps_asg (pe_tup (pa_cons (pe_ix (ix_tup : IxR _ (rIxT K)) (pv 0) (pe_un un_neg pe_int) (fun _ _ => rfl)) (pa_cons (pe_ix (ix_tup : IxR _ (rIxT K)) (pv 1) (pe_un un_neg pe_int) (fun _ _ => rfl)) pa_nil))) (pg_tup (by rfl) (pgs_cons (pg_name (i := 3) sc_led_rows.nd rfl (by first | exact Or.inl rfl | exact Or.inr rfl)) (pgs_cons (pg_name (i := 4) sc_led_rows.nd rfl (by first | exact Or.inl rfl | exact Or.inr rfl)) pgs_nil))))
  (pss_cons (ps_if (pt_cmpR op_eq (pv 2) (pe_glob (v := .str "upper") rfl g_UPPER.choose_spec ⟨_, rfl⟩) (nomark _)) (pss_one (ps_ret (pe_tup (pa_cons (pv 0) (pa_cons (pe_c1 G_put_behind (hr.mono (by decide)) (pa_cons (pv 1) (pa_cons (pv 4) (pa_cons (pv 3) pa_nil)))) pa_nil))))) pss_nil)
  (pss_cons (ps_if (pt_cmpR op_eq (pv 2) (pe_glob (v := .str "lower") rfl g_LOWER.choose_spec ⟨_, rfl⟩) (nomark _)) (pss_one (ps_ret (pe_tup (pa_cons (pe_c1 G_put_behind (hr.mono (by decide)) (pa_cons (pv 0) (pa_cons (pv 3) (pa_cons (pv 4) pa_nil)))) (pa_cons (pv 1) pa_nil))))) pss_nil)
  (pss_one (ps_ret (pe_tup (pa_cons (pe_slice sl_tupA (pv 0) po_none (po_some (pe_un un_neg pe_int))) (pa_cons (pe_callTy call_tuple_of (by rfl) fr.b_tuple (by decide +kernel) (pa_cons (pe_lc (own := [("name", 5)]) (by rfl) sc_led_rows.nd  (pi_tup (pe_slice sl_tupA (pv 1) po_none (po_some (pe_un un_neg pe_int)))) (blkOk_by (own := [("name", 5)]) (N := ["upper", "lower", "kind", "above", "below", "name"]) (sc := defScope (topS 35)) (by decide +kernel)) (fun _ _ _ _ _ => (pg_name (i := 5) sc_led_rows.nd rfl (by first | exact Or.inl rfl | exact Or.inr rfl))) (fun _ _ _ _ _ => pts_nil) (fun _ _ _ _ _ => (pe_ifExp (pt_cmpR op_eq (pv 5) (pv 3) (nomark _)) (pv 4) (pv 5)))) pa_nil)) pa_nil)))))))), ?_⟩)
  refine fn_body (X := E) (S := (aCons (rTup K rStr) (aCons (rTup K rStr) (aCons rStr aNil)))) (E' := eNil) (R := (rTx K (aCons (rTup K rStr) (aCons (rTup K rStr) aNil)))) (st_par (st_par (st_par (st_un (st_un (st_un st_nil)))))) rfl (s_seq (s_asg (e_tup (a_cons (e_op o_ixT (e_var get0) (e_un (u_ii fun _ => rfl) e_int)) (a_cons (e_op o_ixT (e_var (getS get0)) (e_un (u_ii fun _ => rfl) e_int)) a_nil)) (le_n 2)) (g_tup (gs_cons (g_name (putS (putS (putS put0)))) (gs_cons (g_name (putS (putS (putS (putS put0))))) gs_nil)) rfl))
  (s_seq (s_if (t_of (e_op (o_eq sc_str) (e_var (getS (getS get0))) e_str)) (s_ret (e_tup (a_cons (e_var get0) (a_cons (e_call (a_cons (e_var (getS get0)) (a_cons (e_var (getS (getS (getS (getS get0))))) (a_cons (e_var (getS (getS (getS get0)))) a_nil)))) a_nil)) (le_n 2))) s_nil)
  (s_seq (s_if (t_of (e_op (o_eq sc_str) (e_var (getS (getS get0))) e_str)) (s_ret (e_tup (a_cons (e_call (a_cons (e_var get0) (a_cons (e_var (getS (getS (getS get0)))) (a_cons (e_var (getS (getS (getS (getS get0))))) a_nil)))) (a_cons (e_var (getS get0)) a_nil)) (le_n 2))) s_nil)
  (s_ret (e_tup (a_cons (e_sl sl_T (e_var get0) so_none (so_some (e_un (u_ii fun _ => rfl) e_int))) (a_cons (e_ca c_tupL (a_cons (SN.se (n_lc (i_tup (e_sl sl_T (e_var (getS get0)) so_none (so_some (e_un (u_ii fun _ => rfl) e_int)))) (gw_name (putS (putS (putS (putS (putS put0)))))) t_yes (e_if (t_of (e_op (o_eq sc_str) (e_var (getS (getS (getS (getS (getS get0)))))) (e_var (getS (getS (getS get0)))))) (e_var (getS (getS (getS (getS get0))))) (e_var (getS (getS (getS (getS (getS get0))))))))) a_nil)) a_nil)) (le_n 2)))))) ?_
  exact h
theorem sc_is_kinds : FnScope ["value", "kind"] ["value"] (defScope (topS 36)) := ⟨rfl, rfl, rfl, by decide +kernel, rfl, by decide +kernel, by decide +kernel⟩
noncomputable def b_is_kinds (ρ : ((List Str) × (Unit × Unit))) : M (Ct Unit Unit Bool) := (M.thn (M.bind (M.bind (M.bind (M.bind (M.bind (M.ret ρ.1) fun (x316 : (List Str)) => M.bind (M.bind (M.ret ()) fun (x314 : Unit) => M.bind (M.ret ()) fun (x315 : Unit) => M.ret (x314, x315)) fun (x317 : (Unit × Unit)) => M.ret (x316, x317)) fun (r318 : ((List Str) × (Unit × Unit))) => M.ret true) fun (x319 : Bool) => M.ret (!x319)) fun (x325 : Bool) => M.ifb x325 (M.ret true) (M.bind (M.bind (M.bind (M.ret ρ.1) fun (x320 : (List Str)) => M.bind (M.ret ()) fun (x321 : Unit) => M.ret (x320, x321)) fun (r322 : ((List Str) × Unit)) => M.ret (r322.1.length : Int)) fun (x323 : Int) => M.bind (M.ret (4000 : Int)) fun (x324 : Int) => M.ret (decide (x324 < x323)))) fun (x327 : Bool) => M.ifb x327 (M.bind (M.ret false) fun (x326 : Bool) => M.ret (.rt x326)) (M.ret (.nx ρ))) fun (ρ : ((List Str) × (Unit × Unit))) => (M.bind (M.bind (M.bind (M.bind (M.ret ρ.1) fun (l337 : List Str) => M.need (l337.length ≤ 1000000) (M.lcM l337 fun (a338 : Str) => M.bind ((fun (ρ : ((List Str) × (Str × Unit))) => (M.ret true)) (ρ.1, a338, ρ.2.2)) fun (b339 : Bool) => M.ifb b339 (M.bind ((fun (ρ : ((List Str) × (Str × Unit))) => (M.bind (M.bind (M.bind (M.ret ρ.2.1) fun (x330 : Str) => M.bind (M.bind (M.ret ()) fun (x328 : Unit) => M.bind (M.ret ()) fun (x329 : Unit) => M.ret (x328, x329)) fun (x331 : (Unit × Unit)) => M.ret (x330, x331)) fun (r332 : (Str × (Unit × Unit))) => M.ret true) fun (x335 : Bool) => M.ifb x335 (M.bind (M.ret ρ.2.1) fun (x333 : Str) => M.bind (M.ret [("upper" : Str), ("lower" : Str), ("even" : Str)]) fun (x334 : (List Str)) => M.ret (decide (x333 ∈ x334))) (M.ret false))) (ρ.1, a338, ρ.2.2)) fun (y340 : Bool) => M.ret (some y340)) (M.ret none))) fun (x341 : (List Bool)) => M.bind (M.ret ()) fun (x342 : Unit) => M.ret (x341, x342)) fun (r343 : ((List Bool) × Unit)) => M.ret (r343.1.all id)) fun (x344 : Bool) => M.ret (.rt x344)))
noncomputable def m_is_kinds (a : ((List Str) × Unit)) : M Bool := M.fin (b_is_kinds (a.1, ((), ())))
theorem ok_is_kinds (F : Fun K "is_kinds" "is_kinds" (topS 36) f fd) (fr : Free mg) (g_MAX_COURSE : ∃ tk, mg "MAX_COURSE" = some (.int 4000 tk)) (g_KINDS : ∃ a, mg "KINDS" = some (.ref a) ∧ KTS K a [("upper" : Str), ("lower" : Str), ("even" : Str)]) : FnOk P w K mg base CX0 2 f fd ["value"] (spOf (aCons (rTup K rStr) aNil) rBl m_is_kinds) := by
  refine F.ok sc_is_kinds (fun vs H Q E h => spOf_len h) (fun cdv A outer s H vs Q E hr h => ⟨_, (pss_cons (ps_if (PW.pt (pw_or (pt_not (pt_val (pe_callB call_isiU (by rfl) fr.b_isinstance (by decide +kernel) (pa_cons (pv 0) (pa_cons (pe_bltn (v := .ty "tuple") (by rfl) fr.b_tuple (by decide +kernel) rfl) pa_nil))))) (pw_or1 (pt_cmpR op_gt (pe_callB call_len (by rfl) fr.b_len (by decide +kernel) (pa_cons (pv 0) pa_nil)) (pe_glob (v := .int 4000) rfl g_MAX_COURSE.choose_spec ⟨_, rfl⟩) (nomark _))))) (pss_one (ps_ret pe_bl)) pss_nil)
  (pss_one (ps_ret (pe_callB (cr_all rfl) (by rfl) fr.b_all (by decide +kernel) (pa_cons (pe_lc (own := [("kind", 1)]) (by rfl) sc_is_kinds.nd  (pi_tup (pv 0)) (blkOk_by (own := [("kind", 1)]) (N := ["value", "kind"]) (sc := defScope (topS 36)) (by decide +kernel)) (fun _ _ _ _ _ => (pg_name (i := 1) sc_is_kinds.nd rfl (by first | exact Or.inl rfl | exact Or.inr rfl))) (fun _ _ _ _ _ => pts_nil) (fun _ _ _ _ _ => (pe_and (pe_callB (call_isiUK (K := K) rfl) (by rfl) fr.b_isinstance (by decide +kernel) (pa_cons (pv 1) (pa_cons (pe_bltn (v := .ty "str") (by rfl) fr.b_str (by decide +kernel) rfl) pa_nil))) (pe_one (pe_cmpR (op_in_seq : OpR _ _ (rIn K false)) (pv 1) (pe_glob (v := .ref g_KINDS.choose) rfl g_KINDS.choose_spec.1 rfl) (by rfl)))))) pa_nil))))), ?_⟩)
  refine fn_body (X := E) (S := (aCons (rTup K rStr) aNil)) (E' := eNil) (R := rBl) (st_par (st_un st_nil)) rfl (s_seq (s_if (t_or (t_not (t_b (e_ca (c_isiT (b := true) tr_tup (kit_ty (by decide +kernel))) (a_cons (e_var get0) (a_cons e_tyV a_nil))))) (t_of (e_op (o_ib fun _ _ => rfl) (e_ca (c_len len_tup) (a_cons (e_var get0) a_nil)) e_int))) (s_ret e_bl) s_nil)
  (s_ret (e_ca c_all (a_cons (SN.se (n_lc (i_tup (e_var get0)) (gw_name (putS put0)) t_yes (e_and (e_ca (c_isiT (b := true) tr_str (kit_ty (by decide +kernel))) (a_cons (e_var (getS get0)) (a_cons e_tyV a_nil))) (e_op (o_in fl_str sq_tup) (e_var (getS get0)) (e_kts g_KINDS.choose_spec.2))))) a_nil)))) ?_
  exact h
theorem sc_rows_along : GScope ["upper", "lower", "course", "is_whole", "kind"] ["upper", "lower", "course"] (defScope (topS 37)) := ⟨rfl, rfl, rfl, by decide +kernel, rfl, by decide +kernel, by decide +kernel⟩
noncomputable def b_rows_along (z : (List (Option ((List Str) × ((List Str) × Unit))) × ((List Str) × ((List Str) × ((List Str) × (Unit × (Unit × Unit))))))) : M (Ct (List (Option ((List Str) × ((List Str) × Unit))) × ((List Str) × ((List Str) × ((List Str) × (Bool × (Unit × Unit)))))) (List (Option ((List Str) × ((List Str) × Unit))) × Unit) (List (Option ((List Str) × ((List Str) × Unit))))) := (M.thn (M.bind ((fun (ρ : ((List Str) × ((List Str) × ((List Str) × (Unit × (Unit × Unit)))))) => (M.bind (M.bind (M.bind (M.ret ρ.1) fun (x347 : (List Str)) => M.bind (M.bind (M.ret ρ.2.1) fun (x345 : (List Str)) => M.bind (M.ret ()) fun (x346 : Unit) => M.ret (x345, x346)) fun (x348 : ((List Str) × Unit)) => M.ret (x347, x348)) fun (r349 : ((List Str) × ((List Str) × Unit))) => M.still (m_are_whole_rows r349)) fun (x350 : Bool) => M.ret (.nx (ρ.1, ρ.2.1, ρ.2.2.1, x350, ρ.2.2.2.2)))) z.2) fun (k351 : Ct ((List Str) × ((List Str) × ((List Str) × (Bool × (Unit × Unit))))) Unit Unit) => withB z.1 k351) fun (z : (List (Option ((List Str) × ((List Str) × Unit))) × ((List Str) × ((List Str) × ((List Str) × (Bool × (Unit × Unit))))))) => (M.thn (M.need (z.1.length < sizeLine) (M.bind ((fun (ρ : ((List Str) × ((List Str) × ((List Str) × (Bool × (Unit × Unit)))))) => (M.bind (M.bind (M.ret ρ.1) fun (x354 : (List Str)) => M.bind (M.bind (M.ret ρ.2.1) fun (x352 : (List Str)) => M.bind (M.ret ()) fun (x353 : Unit) => M.ret (x352, x353)) fun (x355 : ((List Str) × Unit)) => M.ret (x354, x355)) fun (x357 : ((List Str) × ((List Str) × Unit))) => M.ret (some x357))) z.2) fun (a358 : (Option ((List Str) × ((List Str) × Unit)))) => M.ret (.nx (z.1 ++ [a358], z.2)))) fun (z : (List (Option ((List Str) × ((List Str) × Unit))) × ((List Str) × ((List Str) × ((List Str) × (Bool × (Unit × Unit))))))) => (M.thn (M.bind ((fun (ρ : ((List Str) × ((List Str) × ((List Str) × (Bool × (Unit × Unit)))))) => (M.ret ρ.2.2.1)) z.2) fun (l390 : List Str) => M.forM l390 (fun (a359 : Str) (z : (List (Option ((List Str) × ((List Str) × Unit))) × ((List Str) × ((List Str) × ((List Str) × (Bool × (Unit × Unit))))))) => (fun (z : (List (Option ((List Str) × ((List Str) × Unit))) × ((List Str) × ((List Str) × ((List Str) × (Bool × (Str × Unit))))))) => (M.thn (M.thn (M.bind ((fun (ρ : ((List Str) × ((List Str) × ((List Str) × (Bool × (Str × Unit)))))) => (M.bind (M.ret ρ.2.2.2.1) fun (x360 : Bool) => M.ret (!x360))) z.2) fun (b363 : Bool) => M.ifb b363 (M.thn (M.need (z.1.length < sizeLine) (M.bind ((fun (ρ : ((List Str) × ((List Str) × ((List Str) × (Bool × (Str × Unit)))))) => (M.bind (M.ret ()) fun (x361 : Unit) => M.ret (none : (Option ((List Str) × ((List Str) × Unit)))))) z.2) fun (a362 : (Option ((List Str) × ((List Str) × Unit)))) => M.ret (.nx (z.1 ++ [a362], z.2)))) fun (z : (List (Option ((List Str) × ((List Str) × Unit))) × ((List Str) × ((List Str) × ((List Str) × (Bool × (Str × Unit))))))) => (M.thn (M.ret (.rt z.1)) fun (z : (List (Option ((List Str) × ((List Str) × Unit))) × ((List Str) × ((List Str) × ((List Str) × (Bool × (Str × Unit))))))) => (M.ret (.nx z)))) (M.ret (.nx z))) fun (z : (List (Option ((List Str) × ((List Str) × Unit))) × ((List Str) × ((List Str) × ((List Str) × (Bool × (Str × Unit))))))) => (M.thn (M.bind ((fun (ρ : ((List Str) × ((List Str) × ((List Str) × (Bool × (Str × Unit)))))) => (M.bind (M.bind (M.bind (M.ret ρ.1) fun (x368 : (List Str)) => M.bind (M.bind (M.ret ρ.2.1) fun (x366 : (List Str)) => M.bind (M.bind (M.ret ρ.2.2.2.2.1) fun (x364 : Str) => M.bind (M.ret ()) fun (x365 : Unit) => M.ret (x364, x365)) fun (x367 : (Str × Unit)) => M.ret (x366, x367)) fun (x369 : ((List Str) × (Str × Unit))) => M.ret (x368, x369)) fun (r370 : ((List Str) × ((List Str) × (Str × Unit)))) => M.still (m_led_rows r370)) fun (x371 : ((List Str) × ((List Str) × Unit))) => M.ret (.nx (x371.1, x371.2.1, ρ.2.2.1, ρ.2.2.2.1, ρ.2.2.2.2.1, ρ.2.2.2.2.2)))) z.2) fun (k372 : Ct ((List Str) × ((List Str) × ((List Str) × (Bool × (Str × Unit))))) ((List Str) × ((List Str) × ((List Str) × (Bool × (Unit × Unit))))) Unit) => withB z.1 k372) fun (z : (List (Option ((List Str) × ((List Str) × Unit))) × ((List Str) × ((List Str) × ((List Str) × (Bool × (Str × Unit))))))) => (M.thn (M.bind ((fun (ρ : ((List Str) × ((List Str) × ((List Str) × (Bool × (Str × Unit)))))) => (M.bind (M.bind (M.bind (M.ret ρ.2.2.2.2.1) fun (x373 : Str) => M.bind (M.ret ("even" : Str)) fun (x374 : Str) => M.ret (!decide (x373 = x374))) fun (x380 : Bool) => M.ifb x380 (M.ret true) (M.bind (M.bind (M.ret ρ.1) fun (x377 : (List Str)) => M.bind (M.bind (M.ret ρ.2.1) fun (x375 : (List Str)) => M.bind (M.ret ()) fun (x376 : Unit) => M.ret (x375, x376)) fun (x378 : ((List Str) × Unit)) => M.ret (x377, x378)) fun (r379 : ((List Str) × ((List Str) × Unit))) => M.still (m_are_whole_rows r379))) fun (x381 : Bool) => M.ret (.nx (ρ.1, ρ.2.1, ρ.2.2.1, x381, ρ.2.2.2.2)))) z.2) fun (k382 : Ct ((List Str) × ((List Str) × ((List Str) × (Bool × (Str × Unit))))) ((List Str) × ((List Str) × ((List Str) × (Bool × (Unit × Unit))))) Unit) => withB z.1 k382) fun (z : (List (Option ((List Str) × ((List Str) × Unit))) × ((List Str) × ((List Str) × ((List Str) × (Bool × (Str × Unit))))))) => (M.thn (M.need (z.1.length < sizeLine) (M.bind ((fun (ρ : ((List Str) × ((List Str) × ((List Str) × (Bool × (Str × Unit)))))) => (M.bind (M.bind (M.ret ρ.1) fun (x385 : (List Str)) => M.bind (M.bind (M.ret ρ.2.1) fun (x383 : (List Str)) => M.bind (M.ret ()) fun (x384 : Unit) => M.ret (x383, x384)) fun (x386 : ((List Str) × Unit)) => M.ret (x385, x386)) fun (x388 : ((List Str) × ((List Str) × Unit))) => M.ret (some x388))) z.2) fun (a389 : (Option ((List Str) × ((List Str) × Unit)))) => M.ret (.nx (z.1 ++ [a389], z.2)))) fun (z : (List (Option ((List Str) × ((List Str) × Unit))) × ((List Str) × ((List Str) × ((List Str) × (Bool × (Str × Unit))))))) => (M.ret (.nx z)))))) fun (z : (List (Option ((List Str) × ((List Str) × Unit))) × ((List Str) × ((List Str) × ((List Str) × (Bool × (Str × Unit))))))) => M.ret (.nx (z.1, (fun (ρ : ((List Str) × ((List Str) × ((List Str) × (Bool × (Str × Unit)))))) => (ρ.1, ρ.2.1, ρ.2.2.1, ρ.2.2.2.1, (), ρ.2.2.2.2.2)) z.2)))) (z.1, (fun (ρ : ((List Str) × ((List Str) × ((List Str) × (Bool × (Unit × Unit)))))) => (ρ.1, ρ.2.1, ρ.2.2.1, ρ.2.2.2.1, a359, ρ.2.2.2.2.2)) z.2)) z) fun (z : (List (Option ((List Str) × ((List Str) × Unit))) × ((List Str) × ((List Str) × ((List Str) × (Bool × (Unit × Unit))))))) => (M.ret (.nx z)))))
noncomputable def m_rows_along (a : ((List Str) × ((List Str) × ((List Str) × Unit)))) : M (List (Option ((List Str) × ((List Str) × Unit)))) := M.gen (b_rows_along ([], (a.1, (a.2.1, (a.2.2.1, ((), ((), ())))))))
theorem ok_rows_along (F : L2.Fun K "rows_along" "rows_along" (topS 37) f fd) (G_are_whole_rows : GD P w K mg base "are_whole_rows" 2 (spOf (aCons (rTup K rStr) (aCons (rTup K rStr) aNil)) rBl m_are_whole_rows)) (G_led_rows : GD P w K mg base "led_rows" 3 (spOf (aCons (rTup K rStr) (aCons (rTup K rStr) (aCons rStr aNil))) (rTx K (aCons (rTup K rStr) (aCons (rTup K rStr) aNil))) m_led_rows)) (g_EVEN : ∃ tk, mg "EVEN" = some (.str "even" tk)) : Fn2 P w K mg base 4 f fd ["upper", "lower", "course"] (spOfG (aCons (rTup K rStr) (aCons (rTup K rStr) (aCons (rTup K rStr) aNil))) (rOpt (rTx K (aCons (rTup K rStr) (aCons (rTup K rStr) aNil)))) m_rows_along) := by
  refine Fun.gen2 F sc_rows_along (fun vs H Q E h => spOfG_len h) (fun cdv A outer s H vs Q pn hr h => ⟨_, (g2s_cons (g2_ps fun _ => (ps_set (i := 3) sc_rows_along.nd rfl (by first | exact Or.inl rfl | exact Or.inr rfl) (pe_c1 G_are_whole_rows (hr.mono (by decide)) (pa_cons (pv 0) (pa_cons (pv 1) pa_nil)))))
  (g2s_cons (g2_yield fun _ => (pe_tup (pa_cons (pv 0) (pa_cons (pv 1) pa_nil))))
  (g2s_cons (g2_for rfl (fun _ => (pi_tupK (K := K) (pv 2))) (fun _ => (pg_name (i := 4) sc_rows_along.nd rfl (by first | exact Or.inl rfl | exact Or.inr rfl))) (g2s_cons (g2_if (fun _ => (pt_not (pt_val (pv 3)))) (g2s_cons (g2_yield fun _ => pe_non)
  (g2s_cons (g2_ps fun _ => ps_retN)
  g2s_nil)) g2s_nil)
  (g2s_cons (g2_ps fun _ => (ps_asg (pe_c1 G_led_rows (hr.mono (by decide)) (pa_cons (pv 0) (pa_cons (pv 1) (pa_cons (pv 4) pa_nil)))) (pg_tupK (K := K) (n := 2) (by rfl) (pgs_cons (pg_name (i := 0) sc_rows_along.nd rfl (by first | exact Or.inl rfl | exact Or.inr rfl)) (pgs_cons (pg_name (i := 1) sc_rows_along.nd rfl (by first | exact Or.inl rfl | exact Or.inr rfl)) pgs_nil)))))
  (g2s_cons (g2_ps fun _ => (ps_set (i := 3) sc_rows_along.nd rfl (by first | exact Or.inl rfl | exact Or.inr rfl) (pe_or (pe_cmpR op_ne (pv 4) (pe_glob (v := .str "even") rfl g_EVEN.choose_spec ⟨_, rfl⟩) (nomark _)) (pe_one (pe_c1 G_are_whole_rows (hr.mono (by decide)) (pa_cons (pv 0) (pa_cons (pv 1) pa_nil)))))))
  (g2s_cons (g2_yield fun _ => (pe_tup (pa_cons (pv 0) (pa_cons (pv 1) pa_nil))))
  g2s_nil)))))
  g2s_nil))), ?_⟩)
  refine fn_bodyG (X := E0) (S := (aCons (rTup K rStr) (aCons (rTup K rStr) (aCons (rTup K rStr) aNil)))) (E' := (eCons (sVal (rTup K rStr)) (eCons (sVal (rTup K rStr)) (eCons (sVal (rTup K rStr)) (eCons (sVal rBl) (eCons sUn eNil)))))) (R := (rOpt (rTx K (aCons (rTup K rStr) (aCons (rTup K rStr) aNil))))) (st_par (st_par (st_par (st_un (st_un st_nil))))) rfl (y_seq (y_plain (s_asg (e_call (a_cons (e_var get0) (a_cons (e_var (getS get0)) a_nil))) (g_name (putS (putS (putS put0))))))
  (y_seq (y_yield (e_coeX (coe_some nn_tx) (e_tup (a_cons (e_var get0) (a_cons (e_var (getS get0)) a_nil)) (le_n 2))))
  (y_seq (y_for (i_tup (e_var (getS (getS get0)))) (g_name (putS (putS (putS (putS put0))))) (y_post (y_seq (y_if (t_not (t_b (e_var (getS (getS (getS get0)))))) (y_seq (y_yield (e_coeX (Rb := (rOpt (rTx K (aCons (rTup K rStr) (aCons (rTup K rStr) aNil))))) coe_none e_non))
  (y_seq y_ret
  y_nil)) y_nil)
  (y_seq (y_plain (s_asg (e_call (a_cons (e_var get0) (a_cons (e_var (getS get0)) (a_cons (e_var (getS (getS (getS (getS get0))))) a_nil)))) (g_tup (gs_cons (g_name put0) (gs_cons (g_name (putS put0)) gs_nil)) rfl)))
  (y_seq (y_plain (s_asg (e_or (e_op (o_ne sc_str) (e_var (getS (getS (getS (getS get0))))) e_str) (e_call (a_cons (e_var get0) (a_cons (e_var (getS get0)) a_nil)))) (g_name (putS (putS (putS put0))))))
  (y_seq (y_yield (e_coeX (coe_some nn_tx) (e_tup (a_cons (e_var get0) (a_cons (e_var (getS get0)) a_nil)) (le_n 2))))
  y_nil)))) (wk_fg (fg_keep (fg_keep (fg_keep (fg_keep (fg_un fg_nil))))))))
  y_nil))) ?_
  exact h
theorem sc_rows_behind : FnScope ["upper", "lower", "course", "found", "rows"] ["upper", "lower", "course"] (defScope (topS 38)) := ⟨rfl, rfl, rfl, by decide +kernel, rfl, by decide +kernel, by decide +kernel⟩
noncomputable def b_rows_behind (ρ : ((List Str) × ((List Str) × ((List Str) × (Unit × (Unit × Unit)))))) : M (Ct Unit Unit (Option ((List Str) × ((List Str) × Unit)))) := (M.thn (M.bind (M.bind (M.ret ()) fun (x391 : Unit) => M.ret (none : (Option ((List Str) × ((List Str) × Unit))))) fun (x392 : (Option ((List Str) × ((List Str) × Unit)))) => M.ret (.nx (ρ.1, ρ.2.1, ρ.2.2.1, x392, ρ.2.2.2.2))) fun (ρ : ((List Str) × ((List Str) × ((List Str) × ((Option ((List Str) × ((List Str) × Unit))) × (Unit × Unit)))))) => (M.thn (M.bind (M.bind (M.ret ρ.1) fun (x397 : (List Str)) => M.bind (M.bind (M.ret ρ.2.1) fun (x395 : (List Str)) => M.bind (M.bind (M.ret ρ.2.2.1) fun (x393 : (List Str)) => M.bind (M.ret ()) fun (x394 : Unit) => M.ret (x393, x394)) fun (x396 : ((List Str) × Unit)) => M.ret (x395, x396)) fun (x398 : ((List Str) × ((List Str) × Unit))) => M.ret (x397, x398)) fun (r399 : ((List Str) × ((List Str) × ((List Str) × Unit)))) => M.bind (M.still (m_rows_along r399)) fun (l400 : List (Option ((List Str) × ((List Str) × Unit)))) => M.ret (.nx ((fun (ρ : ((List Str) × ((List Str) × ((List Str) × ((Option ((List Str) × ((List Str) × Unit))) × (Unit × Unit)))))) => lastOr l400 ρ (fun (b401 : (Option ((List Str) × ((List Str) × Unit)))) => (ρ.1, ρ.2.1, ρ.2.2.1, b401, ρ.2.2.2.2))) (ρ.1, ρ.2.1, ρ.2.2.1, ρ.2.2.2.1, ρ.2.2.2.2.1, ρ.2.2.2.2.2)))) fun (ρ : ((List Str) × ((List Str) × ((List Str) × ((Option ((List Str) × ((List Str) × Unit))) × (Unit × Unit)))))) => (M.bind (M.ret ρ.2.2.2.1) fun (x402 : (Option ((List Str) × ((List Str) × Unit)))) => M.ret (.rt x402))))
noncomputable def m_rows_behind (a : ((List Str) × ((List Str) × ((List Str) × Unit)))) : M (Option ((List Str) × ((List Str) × Unit))) := M.fin (b_rows_behind (a.1, (a.2.1, (a.2.2.1, ((), ((), ()))))))
theorem ok_rows_behind (F : Fun K "rows_behind" "rows_behind" (topS 38) f fd) (G_rows_along : GG2 P w K mg base "rows_along" 4 (spOfG (aCons (rTup K rStr) (aCons (rTup K rStr) (aCons (rTup K rStr) aNil))) (rOpt (rTx K (aCons (rTup K rStr) (aCons (rTup K rStr) aNil)))) m_rows_along)) : FnOk P w K mg base CX0 8 f fd ["upper", "lower", "course"] (spOf (aCons (rTup K rStr) (aCons (rTup K rStr) (aCons (rTup K rStr) aNil))) (rOpt (rTx K (aCons (rTup K rStr) (aCons (rTup K rStr) aNil)))) m_rows_behind) := by
  refine F.ok sc_rows_behind (fun vs H Q E h => spOf_len h) (fun cdv A outer s H vs Q E hr h => ⟨_, (pss_cons (ps_set (i := 3) sc_rows_behind.nd rfl (by first | exact Or.inl rfl | exact Or.inr rfl) pe_non)
  (pss_cons (ps_forG (i := 4) (j := 3) (pgen2_call G_rows_along (hr.mono (by decide)) (pa_cons (pv 0) (pa_cons (pv 1) (pa_cons (pv 2) pa_nil)))) (hr.mono (by decide)) sc_rows_behind.nd rfl rfl (by decide) rfl rfl (loc_of (N := ["upper", "lower", "course", "found", "rows"]) (sc := defScope (topS 38)) (by decide +kernel)))
  (pss_one (ps_ret (pv 3))))), ?_⟩)
  refine fn_body (X := E) (S := (aCons (rTup K rStr) (aCons (rTup K rStr) (aCons (rTup K rStr) aNil)))) (E' := eNil) (R := (rOpt (rTx K (aCons (rTup K rStr) (aCons (rTup K rStr) aNil))))) (st_par (st_par (st_par (st_un (st_un st_nil))))) rfl (s_seq (s_asg (e_coeX (Rb := (rOpt (rTx K (aCons (rTup K rStr) (aCons (rTup K rStr) aNil))))) coe_none e_non) (g_name (putS (putS (putS put0)))))
  (s_seq (s_forG (a_cons (e_var get0) (a_cons (e_var (getS get0)) (a_cons (e_var (getS (getS get0))) a_nil))) (fg_keep (fg_keep (fg_keep (fg_keep (fg_keep fg_nil))))) (putS (putS (putS (putS put0)))) (fun _ => rfl) (putS (putS (putS put0))))
  (s_ret (e_var (getS (getS (getS get0))))))) ?_
  exact h
theorem sc_require_course : FnScope ["order", "value", "rows"] ["order", "value"] (defScope (topS 39)) := ⟨rfl, rfl, rfl, by decide +kernel, rfl, by decide +kernel, by decide +kernel⟩
noncomputable def b_require_course (ρ : (Od × ((List Str) × (Unit × Unit)))) : M (Ct Unit Unit ((List Str) × ((List Str) × Unit))) := (M.thn (M.bind (M.bind (M.bind (M.bind (M.ret ρ.2.1) fun (x403 : (List Str)) => M.bind (M.ret ()) fun (x404 : Unit) => M.ret (x403, x404)) fun (r405 : ((List Str) × Unit)) => M.still (m_is_kinds r405)) fun (x416 : Bool) => M.ifb x416 (M.bind (M.bind (M.bind (M.ret ρ.1) fun (x406 : Od) => M.still (m_Order_above (x406, ()))) fun (x412 : (List Str)) => M.bind (M.bind (M.bind (M.ret ρ.1) fun (x407 : Od) => M.still (m_Order_below (x407, ()))) fun (x410 : (List Str)) => M.bind (M.bind (M.ret ρ.2.1) fun (x408 : (List Str)) => M.bind (M.ret ()) fun (x409 : Unit) => M.ret (x408, x409)) fun (x411 : ((List Str) × Unit)) => M.ret (x410, x411)) fun (x413 : ((List Str) × ((List Str) × Unit))) => M.ret (x412, x413)) fun (r414 : ((List Str) × ((List Str) × ((List Str) × Unit)))) => M.still (m_rows_behind r414)) (M.bind (M.ret ()) fun (x415 : Unit) => M.ret (none : (Option ((List Str) × ((List Str) × Unit)))))) fun (x417 : (Option ((List Str) × ((List Str) × Unit)))) => M.ret (.nx (ρ.1, ρ.2.1, x417, ρ.2.2.2))) fun (ρ : (Od × ((List Str) × ((Option ((List Str) × ((List Str) × Unit))) × Unit)))) => (M.thn (M.bind (M.bind (M.ret ρ.2.2.1) fun (x418 : (Option ((List Str) × ((List Str) × Unit)))) => M.bind (M.ret ()) fun (x419 : Unit) => M.ret (Option.isNone x418)) fun (x420 : Bool) => M.ifb x420 M.none (M.ret (.nx ρ))) fun (ρ : (Od × ((List Str) × ((Option ((List Str) × ((List Str) × Unit))) × Unit)))) => (M.bind (M.bind (M.ret ρ.2.2.1) fun (x421 : (Option ((List Str) × ((List Str) × Unit)))) => M.the (id x421)) fun (x422 : ((List Str) × ((List Str) × Unit))) => M.ret (.rt x422))))
noncomputable def m_require_course (a : (Od × ((List Str) × Unit))) : M ((List Str) × ((List Str) × Unit)) := M.fin (b_require_course (a.1, (a.2.1, ((), ()))))
theorem ok_require_course (F : Fun K "require_course" "require_course" (topS 39) f fd) (G_is_kinds : GD P w K mg base "is_kinds" 2 (spOf (aCons (rTup K rStr) aNil) rBl m_is_kinds)) (T : OTx K mg CO) (P_Order_above : GP P w K mg base CO "above" 2 (spOf (aCons (rOrd K CO) aNil) (rTup K rStr) m_Order_above)) (P_Order_below : GP P w K mg base CO "below" 2 (spOf (aCons (rOrd K CO) aNil) (rTup K rStr) m_Order_below)) (G_rows_behind : GD P w K mg base "rows_behind" 8 (spOf (aCons (rTup K rStr) (aCons (rTup K rStr) (aCons (rTup K rStr) aNil))) (rOpt (rTx K (aCons (rTup K rStr) (aCons (rTup K rStr) aNil)))) m_rows_behind)) : FnOk P w K mg base CX0 9 f fd ["order", "value"] (spOf (aCons (rOrd K CO) (aCons (rTup K rStr) aNil)) (rTx K (aCons (rTup K rStr) (aCons (rTup K rStr) aNil))) m_require_course) := by
  refine F.ok sc_require_course (fun vs H Q E h => spOf_len h) (fun cdv A outer s H vs Q E hr h => ⟨_, (pss_cons (ps_set (i := 2) sc_require_course.nd rfl (by first | exact Or.inl rfl | exact Or.inr rfl) (pe_ifExp (pt_val (pe_c1 G_is_kinds (hr.mono (by decide)) (pa_cons (pv 1) pa_nil))) (pe_c1 G_rows_behind (hr.mono (by decide)) (pa_cons (pe_p1 T.cCO P_Order_above (hr.mono (by decide)) (pv 0)) (pa_cons (pe_p1 T.cCO P_Order_below (hr.mono (by decide)) (pv 0)) (pa_cons (pv 1) pa_nil)))) pe_non))
  (pss_cons (ps_if (pt_cmpR op_isN (pv 2) pe_non (nomark _)) (pss_one ps_never) pss_nil)
  (pss_one (ps_ret (pv 2))))), ?_⟩)
  refine fn_body (X := E) (S := (aCons (rOrd K CO) (aCons (rTup K rStr) aNil))) (E' := eNil) (R := (rTx K (aCons (rTup K rStr) (aCons (rTup K rStr) aNil)))) (st_par (st_par (st_un st_nil))) rfl (s_seq (s_asg (e_if (t_b (e_call (a_cons (e_var (getS get0)) a_nil))) (e_call (a_cons (e_prop slr_ord (e_var get0)) (a_cons (e_prop slr_ord (e_var get0)) (a_cons (e_var (getS get0)) a_nil)))) (e_coeX (Rb := (rOpt (rTx K (aCons (rTup K rStr) (aCons (rTup K rStr) aNil))))) coe_none e_non)) (g_name (putS (putS put0))))
  (s_seq (s_if (t_of (e_op o_isN (e_var (getS (getS get0))) e_non)) s_never s_nil)
  (s_ret (e_the (f := id) opt_get (e_var (getS (getS get0))))))) ?_
  exact h
theorem sc_order_behind : FnScope ["order", "course", "upper", "lower"] ["order", "course"] (defScope (topS 40)) := ⟨rfl, rfl, rfl, by decide +kernel, rfl, by decide +kernel, by decide +kernel⟩
noncomputable def b_order_behind (ρ : (Od × ((List Str) × (Unit × (Unit × Unit))))) : M (Ct Unit Unit Od) := (M.thn (M.bind (M.bind (M.bind (M.ret ρ.1) fun (x423 : Od) => M.bind (M.ret ()) fun (x424 : Unit) => M.ret (x423, x424)) fun (r425 : (Od × Unit)) => M.still (m_require_order r425)) fun (x426 : Unit) => M.ret (.nx ρ)) fun (ρ : (Od × ((List Str) × (Unit × (Unit × Unit))))) => (M.thn (M.bind (M.bind (M.bind (M.ret ρ.1) fun (x429 : Od) => M.bind (M.bind (M.ret ρ.2.1) fun (x427 : (List Str)) => M.bind (M.ret ()) fun (x428 : Unit) => M.ret (x427, x428)) fun (x430 : ((List Str) × Unit)) => M.ret (x429, x430)) fun (r431 : (Od × ((List Str) × Unit))) => M.still (m_require_course r431)) fun (x432 : ((List Str) × ((List Str) × Unit))) => M.ret (.nx (ρ.1, ρ.2.1, x432.1, x432.2.1, ρ.2.2.2.2))) fun (ρ : (Od × ((List Str) × ((List Str) × ((List Str) × Unit))))) => (M.bind (M.bind (M.bind (M.ret ρ.2.2.1) fun (x435 : (List Str)) => M.bind (M.bind (M.ret ρ.2.2.2.1) fun (x433 : (List Str)) => M.bind (M.ret ()) fun (x434 : Unit) => M.ret (x433, x434)) fun (x436 : ((List Str) × Unit)) => M.ret (x435, x436)) fun (r437 : ((List Str) × ((List Str) × Unit))) => M.need (okOrd ⟨r437.1, r437.2.1⟩) (M.ret (Od.mk r437.1 r437.2.1))) fun (x438 : Od) => M.ret (.rt x438))))
noncomputable def m_order_behind (a : (Od × ((List Str) × Unit))) : M Od := M.fin (b_order_behind (a.1, (a.2.1, ((), ((), ())))))
theorem ok_order_behind (F : Fun K "order_behind" "order_behind" (topS 40) f fd) (G_require_order : GD P w K mg base "require_order" 2 (spOf (aCons (rOrd K CO) aNil) rNon m_require_order)) (G_require_course : GD P w K mg base "require_course" 9 (spOf (aCons (rOrd K CO) (aCons (rTup K rStr) aNil)) (rTx K (aCons (rTup K rStr) (aCons (rTup K rStr) aNil))) m_require_course)) (G_Order : GM P w K mg base "Order" CO 4 [] (spOfI CO (aCons (rTup K rStr) (aCons (rTup K rStr) aNil)) (rObj CO (vVal rBl (vVal (rTup K rStr) (vVal (rDct Sum.inr rInt) (vVal (rTup K rStr) (vVal (rTup K (rTx K (aCons rStr (aCons rStr aNil)))) (vVal (rTup K rInt) (vVal rStr (vVal (rTup K rStr) (vVal (rDct Sum.inr rInt) vNil)))))))))) m_Order___init__)) : FnOk P w K mg base CX0 10 f fd ["order", "course"] (spOf (aCons (rOrd K CO) (aCons (rTup K rStr) aNil)) (rOrd K CO) m_order_behind) := by
  refine F.ok sc_order_behind (fun vs H Q E h => spOf_len h) (fun cdv A outer s H vs Q E hr h => ⟨_, (pss_cons (ps_expr (pe_c1 G_require_order (hr.mono (by decide)) (pa_cons (pv 0) pa_nil)))
  (pss_cons (ps_asg (pe_c1 G_require_course (hr.mono (by decide)) (pa_cons (pv 0) (pa_cons (pv 1) pa_nil))) (pg_tup (by rfl) (pgs_cons (pg_name (i := 2) sc_order_behind.nd rfl (by first | exact Or.inl rfl | exact Or.inr rfl)) (pgs_cons (pg_name (i := 3) sc_order_behind.nd rfl (by first | exact Or.inl rfl | exact Or.inr rfl)) pgs_nil))))
  (pss_one (ps_ret (pe_m1 G_Order (hr.mono (by decide)) (pa_cons (pv 2) (pa_cons (pv 3) pa_nil))))))), ?_⟩)
  refine fn_body (X := E) (S := (aCons (rOrd K CO) (aCons (rTup K rStr) aNil))) (E' := eNil) (R := (rOrd K CO)) (st_par (st_par (st_un (st_un st_nil)))) rfl (s_seq (s_drop (e_call (a_cons (e_var get0) a_nil)))
  (s_seq (s_asg (e_call (a_cons (e_var get0) (a_cons (e_var (getS get0)) a_nil))) (g_tup (gs_cons (g_name (putS (putS put0))) (gs_cons (g_name (putS (putS (putS put0)))) gs_nil)) rfl))
  (s_ret (e_mkOrd (a_cons (e_var (getS (getS get0))) (a_cons (e_var (getS (getS (getS get0)))) a_nil)))))) ?_
  exact h
theorem sc__law_mixed : FnScope ["_law_dice_here", "_law_items", "_law_left", "_law_found", "_law_turn"] ["_law_dice_here", "_law_items"] (defScope (topS 45)) := ⟨rfl, rfl, rfl, by decide +kernel, rfl, by decide +kernel, by decide +kernel⟩
noncomputable def b__law_mixed (ρ : (Unit × ((List Str) × (Unit × (Unit × (Unit × Unit)))))) : M (Ct Unit Unit (List Str)) := (M.thn (M.bind (M.bind (M.bind (M.ret ρ.2.1) fun (x439 : (List Str)) => M.bind (M.ret ()) fun (x440 : Unit) => M.ret (x439, x440)) fun (r441 : ((List Str) × Unit)) => M.ret r441.1) fun (x442 : (List Str)) => M.bind (M.bind (M.ret ()) fun _ => M.ret []) fun (x443 : (List Str)) => M.ret (.nx (ρ.1, ρ.2.1, x442, x443, ρ.2.2.2.2.1, ρ.2.2.2.2.2))) fun (ρ : (Unit × ((List Str) × ((List Str) × ((List Str) × (Unit × Unit)))))) => (M.thn (M.bind (M.bind (M.bind (M.bind (M.ret ρ.2.1) fun (x444 : (List Str)) => M.bind (M.ret ()) fun (x445 : Unit) => M.ret (x444, x445)) fun (r446 : ((List Str) × Unit)) => M.ret (r446.1.length : Int)) fun (x447 : Int) => M.need (-(2 ^ 62) ≤ x447 ∧ x447 < 2 ^ 62) (M.ret (rng 0 x447))) fun (l452 : List Int) => M.forM l452 (fun (a448 : Int) (ρ : (Unit × ((List Str) × ((List Str) × ((List Str) × (Unit × Unit)))))) => (fun (ρ : (Unit × ((List Str) × ((List Str) × ((List Str) × (Int × Unit)))))) => (M.thn (M.bind (M.bind (M.ret (ρ.2.2.1.length : Int)) fun (x449 : Int) => M.roll x449) fun (x451 : Int) => M.need (ρ.2.2.1.length ≤ 2 ^ 62 ∧ 0 ≤ x451) (M.bind (M.the ρ.2.2.1[Int.toNat x451]?) fun (a450 : Str) => M.need (ρ.2.2.2.1.length < sizeLine) (M.ret (.nx (ρ.1, ρ.2.1, ρ.2.2.1.eraseIdx (Int.toNat x451), ρ.2.2.2.1 ++ [a450], ρ.2.2.2.2.1, ρ.2.2.2.2.2))))) fun (ρ : (Unit × ((List Str) × ((List Str) × ((List Str) × (Int × Unit)))))) => M.ret (.nx (ρ.1, ρ.2.1, ρ.2.2.1, ρ.2.2.2.1, (), ρ.2.2.2.2.2)))) (ρ.1, ρ.2.1, ρ.2.2.1, ρ.2.2.2.1, a448, ρ.2.2.2.2.2)) ρ) fun (ρ : (Unit × ((List Str) × ((List Str) × ((List Str) × (Unit × Unit)))))) => (M.bind (M.ret ρ.2.2.2.1) fun (x453 : (List Str)) => M.ret (.rt x453))))
noncomputable def m__law_mixed (a : ((List Str) × Unit)) : M (List Str) := M.fin (b__law_mixed ((), (a.1, ((), ((), ((), ()))))))
theorem ok__law_mixed (F : Fun K "_law_mixed" "_law_mixed" (topS 45) f fd) (fr : Free mg) (G__law_roll : GD P w K mg base "_law_roll" 2 spRoll) : FnOk P w K mg base CX0 3 f fd ["_law_dice_here", "_law_items"] (spOfD (aCons (rLs rStr) aNil) (rLs rStr) m__law_mixed) := by
  refine F.ok sc__law_mixed (fun vs H Q E h => spOfD_len h) (fun cdv A outer s H vs Q E hr h => ⟨_, (pss_cons (ps_par (i := 2) (j := 3) (by rfl) sc__law_mixed.nd rfl rfl (by decide) rfl rfl (pa_cons (pe_callTy call_list_of (by rfl) fr.b_list (by decide +kernel) (pa_cons (pv 1) pa_nil)) (pa_cons (pe_lst pa_nil) pa_nil)) (by rfl))
  (pss_cons (ps_for PassesOwn.never rfl (pi_range1 (by rfl) fr.b_range (pa_cons (pe_callB call_len (by rfl) fr.b_len (by decide +kernel) (pa_cons (pv 1) pa_nil)) pa_nil)) (pg_name (i := 4) sc__law_mixed.nd rfl (by first | exact Or.inl rfl | exact Or.inr rfl)) (pss_one (ps_expr (pe_bm PySem.F.plainAttrs_list PySem.F.slot_list_append PySem.F.type_list_append mt_append (pv 3) (pa_cons (pe_bm PySem.F.plainAttrs_list PySem.F.slot_list_pop PySem.F.type_list_pop mt_popAt (pv 2) (pa_cons (pe_c1 G__law_roll (hr.mono (by decide)) (pa_cons (pv 0) (pa_cons (pe_callB call_len (by rfl) fr.b_len (by decide +kernel) (pa_cons (pv 2) pa_nil)) pa_nil))) pa_nil)) pa_nil)))))
  (pss_one (ps_ret (pv 3))))), ?_⟩)
  refine fn_bodyD (X := E) (S := (aCons (rLs rStr) aNil)) (E' := eNil) (R := (rLs rStr)) (st_dice (st_par (st_un (st_un (st_un st_nil))))) rfl (s_seq (s_parV (sv_n (n_ca c_listL (a_cons (e_var (getS get0)) a_nil))) (sv_n (n_lst (Ra := rStr) hom_nil a_nil (le_n 0))) (putS (putS put0)) (putS (putS (putS put0))))
  (s_seq (s_for (i_rng1 (e_ca (c_len len_ls) (a_cons (e_var (getS get0)) a_nil))) (g_name (putS (putS (putS (putS put0))))) (s_post (s_appendPop (modS (modS (modS mod0))) (modS (modS mod0)) (fun _ _ => rfl) (e_roll get0 (e_lenO (modS (modS mod0))))) (wk_fg (fg_keep (fg_keep (fg_keep (fg_keep (fg_un fg_nil))))))))
  (s_pre (wk_fz (fzS (fzS (fzS fz0)))) (s_ret (e_var (getS (getS (getS get0)))))))) ?_
  exact h
theorem sc__law_names_drawn : FnScope ["_law_dice_here", "_law_times"] ["_law_dice_here", "_law_times"] (defScope (topS 46)) := ⟨rfl, rfl, rfl, by decide +kernel, rfl, by decide +kernel, by decide +kernel⟩
noncomputable def b__law_names_drawn (ρ : (Unit × (Int × Unit))) : M (Ct Unit Unit (List Str)) := (M.bind (M.bind (M.bind (M.bind (M.bind (M.bind (M.ret ("a" : Str)) fun (x472 : Str) => M.bind (M.bind (M.ret ("b" : Str)) fun (x470 : Str) => M.bind (M.bind (M.ret ("c" : Str)) fun (x468 : Str) => M.bind (M.bind (M.ret ("d" : Str)) fun (x466 : Str) => M.bind (M.bind (M.ret ("e" : Str)) fun (x464 : Str) => M.bind (M.bind (M.ret ("x" : Str)) fun (x462 : Str) => M.bind (M.bind (M.ret ("aa" : Str)) fun (x460 : Str) => M.bind (M.bind (M.ret ("ab" : Str)) fun (x458 : Str) => M.bind (M.bind (M.ret ("zz" : Str)) fun (x456 : Str) => M.bind (M.bind (M.ret ("zzzzzzzz" : Str)) fun (x454 : Str) => M.bind (M.ret ()) fun (x455 : Unit) => M.ret (x454, x455)) fun (x457 : (Str × Unit)) => M.ret (x456, x457)) fun (x459 : (Str × (Str × Unit))) => M.ret (x458, x459)) fun (x461 : (Str × (Str × (Str × Unit)))) => M.ret (x460, x461)) fun (x463 : (Str × (Str × (Str × (Str × Unit))))) => M.ret (x462, x463)) fun (x465 : (Str × (Str × (Str × (Str × (Str × Unit)))))) => M.ret (x464, x465)) fun (x467 : (Str × (Str × (Str × (Str × (Str × (Str × Unit))))))) => M.ret (x466, x467)) fun (x469 : (Str × (Str × (Str × (Str × (Str × (Str × (Str × Unit)))))))) => M.ret (x468, x469)) fun (x471 : (Str × (Str × (Str × (Str × (Str × (Str × (Str × (Str × Unit))))))))) => M.ret (x470, x471)) fun (x473 : (Str × (Str × (Str × (Str × (Str × (Str × (Str × (Str × (Str × Unit)))))))))) => M.ret (x472, x473)) fun (r474 : (Str × (Str × (Str × (Str × (Str × (Str × (Str × (Str × (Str × (Str × Unit))))))))))) => M.ret [r474.1, r474.2.1, r474.2.2.1, r474.2.2.2.1, r474.2.2.2.2.1, r474.2.2.2.2.2.1, r474.2.2.2.2.2.2.1, r474.2.2.2.2.2.2.2.1, r474.2.2.2.2.2.2.2.2.1, r474.2.2.2.2.2.2.2.2.2.1]) fun (x475 : (List Str)) => M.bind (M.ret ()) fun (x476 : Unit) => M.ret (x475, x476)) fun (r477 : ((List Str) × Unit)) => m__law_mixed r477) fun (x479 : (List Str)) => M.bind (M.ret none) fun (x480 : Option Int) => M.bind (M.bind (M.ret ρ.2.1) fun (x478 : Int) => M.ret (some x478)) fun (x481 : Option Int) => M.ret (cutL x479 x480 x481)) fun (x482 : (List Str)) => M.ret (.rt x482))
noncomputable def m__law_names_drawn (a : (Int × Unit)) : M (List Str) := M.fin (b__law_names_drawn ((), (a.1, ())))
theorem ok__law_names_drawn (F : Fun K "_law_names_drawn" "_law_names_drawn" (topS 46) f fd) (G__law_mixed : GD P w K mg base "_law_mixed" 3 (spOfD (aCons (rLs rStr) aNil) (rLs rStr) m__law_mixed)) : FnOk P w K mg base CX0 4 f fd ["_law_dice_here", "_law_times"] (spOfD (aCons rInt aNil) (rLs rStr) m__law_names_drawn) := by
  refine F.ok sc__law_names_drawn (fun vs H Q E h => spOfD_len h) (fun cdv A outer s H vs Q E hr h => ⟨_, (pss_one (ps_ret (pe_slice sl_list (pe_c1 G__law_mixed (hr.mono (by decide)) (pa_cons (pv 0) (pa_cons (pe_lst (pa_cons pe_str (pa_cons pe_str (pa_cons pe_str (pa_cons pe_str (pa_cons pe_str (pa_cons pe_str (pa_cons pe_str (pa_cons pe_str (pa_cons pe_str (pa_cons pe_str pa_nil))))))))))) pa_nil))) po_none (po_some (pv 1))))), ?_⟩)
  refine fn_bodyD (X := E) (S := (aCons rInt aNil)) (E' := eNil) (R := (rLs rStr)) (st_dice (st_par st_nil)) rfl (s_ret (SN.se (n_sl sl_L (e_callD get0 (a_cons (SN.se (n_lst (hom_cons (hom_cons (hom_cons (hom_cons (hom_cons (hom_cons (hom_cons (hom_cons (hom_cons (hom_cons hom_nil)))))))))) (a_cons e_str (a_cons e_str (a_cons e_str (a_cons e_str (a_cons e_str (a_cons e_str (a_cons e_str (a_cons e_str (a_cons e_str (a_cons e_str a_nil)))))))))) (le_n 10))) a_nil)) so_none (so_some (e_var (getS get0)))))) ?_
  exact h
theorem sc__law_is_whole : FnScope ["_law_upper", "_law_lower", "_law_cuts", "_law_k"] ["_law_upper", "_law_lower"] (defScope (topS 47)) := ⟨rfl, rfl, rfl, by decide +kernel, rfl, by decide +kernel, by decide +kernel⟩
noncomputable def b__law_is_whole (ρ : ((List Str) × ((List Str) × (Unit × (Unit × Unit))))) : M (Ct Unit Unit Bool) := (M.thn (M.bind (M.bind (M.bind (M.ret (1 : Int)) fun (x486 : Int) => M.bind (M.bind (M.bind (M.ret ρ.1) fun (x483 : (List Str)) => M.bind (M.ret ()) fun (x484 : Unit) => M.ret (x483, x484)) fun (r485 : ((List Str) × Unit)) => M.ret (r485.1.length : Int)) fun (x487 : Int) => M.need (-(2 ^ 62) ≤ x486 ∧ x486 < 2 ^ 62 ∧ -(2 ^ 62) ≤ x487 ∧ x487 < 2 ^ 62) (M.ret (rng x486 x487))) fun (l499 : List Int) => M.need (l499.length ≤ 1000000) (M.lcM l499 fun (a500 : Int) => M.bind ((fun (ρ : ((List Str) × ((List Str) × (Unit × (Int × Unit))))) => (M.bind (M.bind (M.ret ρ.1) fun (x489 : (List Str)) => M.bind (M.ret none) fun (x490 : Option Int) => M.bind (M.bind (M.ret ρ.2.2.2.1) fun (x488 : Int) => M.ret (some x488)) fun (x491 : Option Int) => M.ret (cutL x489 x490 x491)) fun (x496 : (List Str)) => M.need (x496.length ≤ 1000) (M.bind (M.bind (M.ret ρ.2.1) fun (x493 : (List Str)) => M.bind (M.ret none) fun (x494 : Option Int) => M.bind (M.bind (M.ret ρ.2.2.2.1) fun (x492 : Int) => M.ret (some x492)) fun (x495 : Option Int) => M.ret (cutL x493 x494 x495)) fun (x497 : (List Str)) => M.need (x497.length ≤ 1000) (M.ret (setEqB x496 x497))))) (ρ.1, ρ.2.1, ρ.2.2.1, a500, ρ.2.2.2.2)) fun (b501 : Bool) => M.ifb b501 (M.bind ((fun (ρ : ((List Str) × ((List Str) × (Unit × (Int × Unit))))) => (M.ret ρ.2.2.2.1)) (ρ.1, ρ.2.1, ρ.2.2.1, a500, ρ.2.2.2.2)) fun (y502 : Int) => M.ret (some y502)) (M.ret none))) fun (x503 : (List Int)) => M.ret (.nx (ρ.1, ρ.2.1, x503, ρ.2.2.2))) fun (ρ : ((List Str) × ((List Str) × ((List Int) × (Unit × Unit))))) => (M.bind (M.bind (M.bind (M.bind (M.bind (M.ret ρ.1) fun (x504 : (List Str)) => M.bind (M.ret ()) fun (x505 : Unit) => M.ret (x504, x505)) fun (r506 : ((List Str) × Unit)) => M.ret (r506.1.length : Int)) fun (x507 : Int) => M.bind (M.ret (1 : Int)) fun (x508 : Int) => M.ret (decide (x508 < x507))) fun (x511 : Bool) => M.ifb x511 (M.bind (M.ret ρ.2.2.1) fun (x509 : (List Int)) => M.bind (M.bind (M.ret ()) fun _ => M.ret ([] : (List Int))) fun (x510 : (List Int)) => M.need (((fun (xs : (List Int)) => PyData.list (xs.map PyData.int)) x509).canLay0 = true ∧ ((fun (xs : (List Int)) => PyData.list (xs.map PyData.int)) x510).canLay0 = true) (M.ret (PyData.eqv ((fun (xs : (List Int)) => PyData.list (xs.map PyData.int)) x509) ((fun (xs : (List Int)) => PyData.list (xs.map PyData.int)) x510)))) (M.ret false)) fun (x512 : Bool) => M.ret (.rt x512)))
noncomputable def m__law_is_whole (a : ((List Str) × ((List Str) × Unit))) : M Bool := M.fin (b__law_is_whole (a.1, (a.2.1, ((), ((), ())))))
theorem ok__law_is_whole (F : Fun K "_law_is_whole" "_law_is_whole" (topS 47) f fd) (fr : Free mg) : FnOk P w K mg base CX0 2 f fd ["_law_upper", "_law_lower"] (spOf (aCons (rLs rStr) (aCons (rLs rStr) aNil)) rBl m__law_is_whole) := by
  refine F.ok sc__law_is_whole (fun vs H Q E h => spOf_len h) (fun cdv A outer s H vs Q E hr h => ⟨_, (pss_cons (ps_setLc (i := 2) (own := [("_law_k", 3)]) (by rfl) sc__law_is_whole.nd rfl rfl (sw_true rfl rfl rfl (by decide +kernel)) (pi_range2 (by rfl) fr.b_range (pa_cons pe_int (pa_cons (pe_callB call_len (by rfl) fr.b_len (by decide +kernel) (pa_cons (pv 0) pa_nil)) pa_nil))) (blkOk_by (own := [("_law_k", 3)]) (N := ["_law_upper", "_law_lower", "_law_cuts", "_law_k"]) (sc := defScope (topS 47)) (by decide +kernel)) (fun _ _ _ _ _ => (pg_name (i := 3) sc__law_is_whole.nd rfl (by first | exact Or.inl rfl | exact Or.inr rfl))) (fun _ _ _ _ _ => (pts_one (pt_cmp (pc_eqSetsK (K := K) (hu_of0 hr) rfl (by rfl) fr.b_set (pe_slice (sl_list : L2.SlR _ (rSlL K)) (pv 0) po_none (po_some (pv 3))) (pe_slice (sl_list : L2.SlR _ (rSlL K)) (pv 1) po_none (po_some (pv 3)))) (by rfl)))) (fun _ _ _ _ _ => (pv 3)))
  (pss_one (ps_ret (pe_and (pe_cmpR op_gt (pe_callB call_len (by rfl) fr.b_len (by decide +kernel) (pa_cons (pv 0) pa_nil)) pe_int (nomark _)) (pe_one (pe_cmpR (op_eqD (hu64 hr) : OpR _ _ (rEqD K)) (pv 2) (pe_lst pa_nil) (nomark _))))))), ?_⟩)
  refine fn_body (X := E) (S := (aCons (rLs rStr) (aCons (rLs rStr) aNil))) (E' := eNil) (R := rBl) (st_par (st_par (st_un (st_un st_nil)))) rfl (s_seq (s_asg (SN.se (n_lc (i_rng2 e_int (e_ca (c_len len_ls) (a_cons (e_var get0) a_nil))) (gw_name (putS (putS (putS put0)))) (t_b (e_eqSets txs_ls txs_ls (SN.se (n_sl sl_L (e_var get0) so_none (so_some (e_var (getS (getS (getS get0))))))) (SN.se (n_sl sl_L (e_var (getS get0)) so_none (so_some (e_var (getS (getS (getS get0))))))))) (e_var (getS (getS (getS get0)))))) (g_name (putS (putS put0))))
  (s_ret (e_and (e_op (o_ib fun _ _ => rfl) (e_ca (c_len len_ls) (a_cons (e_var get0) a_nil)) e_int) (e_op (o_eqD (da := (fun (xs : (List Int)) => PyData.list (xs.map PyData.int))) (db := (fun (xs : (List Int)) => PyData.list (xs.map PyData.int))) (dp_ls dp_int) (dp_ls dp_int)) (e_var (getS (getS get0))) (SN.se (n_lst (Ra := rInt) hom_nil a_nil (le_n 0))))))) ?_
  exact h
theorem sc__law_rows_drawn : FnScope ["_law_dice_here", "_law_times", "_law_upper", "_law_lower", "_law_turn", "_law_other"] ["_law_dice_here", "_law_times"] (defScope (topS 48)) := ⟨rfl, rfl, rfl, by decide +kernel, rfl, by decide +kernel, by decide +kernel⟩
noncomputable def b__law_rows_drawn (ρ : (Unit × (Int × (Unit × (Unit × (Unit × (Unit × Unit))))))) : M (Ct Unit Unit ((List Str) × ((List Str) × Unit))) := (M.thn (M.bind (M.bind (M.bind (M.ret ρ.2.1) fun (x513 : Int) => M.bind (M.ret ()) fun (x514 : Unit) => M.ret (x513, x514)) fun (r515 : (Int × Unit)) => m__law_names_drawn r515) fun (x516 : (List Str)) => M.ret (.nx (ρ.1, ρ.2.1, x516, ρ.2.2.2))) fun (ρ : (Unit × (Int × ((List Str) × (Unit × (Unit × (Unit × Unit))))))) => (M.thn (M.bind (M.bind (M.ret ρ.2.2.1) fun (x517 : (List Str)) => M.ret (List.reverse x517)) fun (x518 : (List Str)) => M.ret (.nx (ρ.1, ρ.2.1, ρ.2.2.1, x518, ρ.2.2.2.2))) fun (ρ : (Unit × (Int × ((List Str) × ((List Str) × (Unit × (Unit × Unit))))))) => (M.thn (M.bind (M.bind (M.bind (M.ret (4 : Int)) fun (x519 : Int) => M.roll x519) fun (x520 : Int) => M.bind (M.ret (0 : Int)) fun (x521 : Int) => M.ret (decide (x521 < x520))) fun (x536 : Bool) => M.ifb x536 (M.bind (M.bind (M.ret (4 : Int)) fun (x522 : Int) => M.need (-(2 ^ 62) ≤ x522 ∧ x522 < 2 ^ 62) (M.ret (rng 0 x522))) fun (l535 : List Int) => M.forM l535 (fun (a523 : Int) (ρ : (Unit × (Int × ((List Str) × ((List Str) × (Unit × (Unit × Unit))))))) => (fun (ρ : (Unit × (Int × ((List Str) × ((List Str) × (Int × (Unit × Unit))))))) => (M.thn (M.thn (M.bind (M.bind (M.bind (M.ret ρ.2.2.1) fun (x524 : (List Str)) => M.bind (M.ret ()) fun (x525 : Unit) => M.ret (x524, x525)) fun (r526 : ((List Str) × Unit)) => m__law_mixed r526) fun (x527 : (List Str)) => M.ret (.nx (ρ.1, ρ.2.1, ρ.2.2.1, ρ.2.2.2.1, ρ.2.2.2.2.1, x527, ρ.2.2.2.2.2.2))) fun (ρ : (Unit × (Int × ((List Str) × ((List Str) × (Int × ((List Str) × Unit))))))) => (M.bind (M.bind (M.bind (M.ret ρ.2.2.1) fun (x530 : (List Str)) => M.bind (M.bind (M.ret ρ.2.2.2.2.2.1) fun (x528 : (List Str)) => M.bind (M.ret ()) fun (x529 : Unit) => M.ret (x528, x529)) fun (x531 : ((List Str) × Unit)) => M.ret (x530, x531)) fun (r532 : ((List Str) × ((List Str) × Unit))) => M.still (m__law_is_whole r532)) fun (x534 : Bool) => M.ifb x534 (M.bind (M.ret ρ.2.2.2.2.2.1) fun (x533 : (List Str)) => M.ret (.nx (ρ.1, ρ.2.1, ρ.2.2.1, x533, ρ.2.2.2.2))) (M.ret (.nx ρ)))) fun (ρ : (Unit × (Int × ((List Str) × ((List Str) × (Int × ((List Str) × Unit))))))) => M.ret (.nx (ρ.1, ρ.2.1, ρ.2.2.1, ρ.2.2.2.1, (), (), ρ.2.2.2.2.2.2)))) (ρ.1, ρ.2.1, ρ.2.2.1, ρ.2.2.2.1, a523, ρ.2.2.2.2.2)) ρ) (M.ret (.nx ρ))) fun (ρ : (Unit × (Int × ((List Str) × ((List Str) × (Unit × (Unit × Unit))))))) => (M.bind (M.bind (M.ret ρ.2.2.1) fun (x539 : (List Str)) => M.bind (M.bind (M.ret ρ.2.2.2.1) fun (x537 : (List Str)) => M.bind (M.ret ()) fun (x538 : Unit) => M.ret (x537, x538)) fun (x540 : ((List Str) × Unit)) => M.ret (x539, x540)) fun (x542 : ((List Str) × ((List Str) × Unit))) => M.ret (.rt x542)))))
noncomputable def m__law_rows_drawn (a : (Int × Unit)) : M ((List Str) × ((List Str) × Unit)) := M.fin (b__law_rows_drawn ((), (a.1, ((), ((), ((), ((), ())))))))
theorem ok__law_rows_drawn (F : Fun K "_law_rows_drawn" "_law_rows_drawn" (topS 48) f fd) (G__law_names_drawn : GD P w K mg base "_law_names_drawn" 4 (spOfD (aCons rInt aNil) (rLs rStr) m__law_names_drawn)) (G__law_roll : GD P w K mg base "_law_roll" 2 spRoll) (fr : Free mg) (G__law_mixed : GD P w K mg base "_law_mixed" 3 (spOfD (aCons (rLs rStr) aNil) (rLs rStr) m__law_mixed)) (G__law_is_whole : GD P w K mg base "_law_is_whole" 2 (spOf (aCons (rLs rStr) (aCons (rLs rStr) aNil)) rBl m__law_is_whole)) : FnOk P w K mg base CX0 5 f fd ["_law_dice_here", "_law_times"] (spOfD (aCons rInt aNil) (rTx K (aCons (rLs rStr) (aCons (rLs rStr) aNil))) m__law_rows_drawn) := by
  refine F.ok sc__law_rows_drawn (fun vs H Q E h => spOfD_len h) (fun cdv A outer s H vs Q E hr h => ⟨_, (pss_cons (ps_set (i := 2) sc__law_rows_drawn.nd rfl (by first | exact Or.inl rfl | exact Or.inr rfl) (pe_c1 G__law_names_drawn (hr.mono (by decide)) (pa_cons (pv 0) (pa_cons (pv 1) pa_nil))))
  (pss_cons (ps_set (i := 3) sc__law_rows_drawn.nd rfl (by first | exact Or.inl rfl | exact Or.inr rfl) (pe_revL (pv 2)))
  (pss_cons (ps_if (pt_cmpR op_gt (pe_c1 G__law_roll (hr.mono (by decide)) (pa_cons (pv 0) (pa_cons pe_int pa_nil))) pe_int (nomark _)) (pss_one (ps_for PassesOwn.never rfl (pi_range1 (by rfl) fr.b_range (pa_cons pe_int pa_nil)) (pg_name (i := 4) sc__law_rows_drawn.nd rfl (by first | exact Or.inl rfl | exact Or.inr rfl)) (pss_cons (ps_set (i := 5) sc__law_rows_drawn.nd rfl (by first | exact Or.inl rfl | exact Or.inr rfl) (pe_c1 G__law_mixed (hr.mono (by decide)) (pa_cons (pv 0) (pa_cons (pv 2) pa_nil))))
  (pss_one (ps_if (pt_val (pe_c1 G__law_is_whole (hr.mono (by decide)) (pa_cons (pv 2) (pa_cons (pv 5) pa_nil)))) (pss_one (ps_set (i := 3) sc__law_rows_drawn.nd rfl (by first | exact Or.inl rfl | exact Or.inr rfl) (pv 5))) pss_nil))))) pss_nil)
  (pss_one (ps_ret (pe_tup (pa_cons (pv 2) (pa_cons (pv 3) pa_nil)))))))), ?_⟩)
  refine fn_bodyD (X := E) (S := (aCons rInt aNil)) (E' := eNil) (R := (rTx K (aCons (rLs rStr) (aCons (rLs rStr) aNil)))) (st_dice (st_par (st_un (st_un (st_un (st_un st_nil)))))) rfl (s_seq (s_asg (e_callD get0 (a_cons (e_var (getS get0)) a_nil)) (g_name (putS (putS put0))))
  (s_seq (s_asg (SN.se (n_revL (e_var (getS (getS get0))))) (g_name (putS (putS (putS put0)))))
  (s_seq (s_if (t_of (e_op (o_ib fun _ _ => rfl) (e_roll get0 e_int) e_int)) (s_for (i_rng1 e_int) (g_name (putS (putS (putS (putS put0))))) (s_post (s_seq (s_asg (e_callD get0 (a_cons (e_var (getS (getS get0))) a_nil)) (g_name (putS (putS (putS (putS (putS put0)))))))
  (s_if (t_b (e_call (a_cons (e_var (getS (getS get0))) (a_cons (e_var (getS (getS (getS (getS (getS get0)))))) a_nil)))) (s_asg (e_var (getS (getS (getS (getS (getS get0)))))) (g_name (putS (putS (putS put0))))) s_nil)) (wk_fg (fg_keep (fg_keep (fg_keep (fg_keep (fg_un (fg_un fg_nil))))))))) s_nil)
  (s_ret (e_tup (a_cons (e_var (getS (getS get0))) (a_cons (e_var (getS (getS (getS get0)))) a_nil)) (le_n 2)))))) ?_
  exact h
theorem sc__law_moved_places : FnScope ["_law_places", "_law_kind", "_law_upper", "_law_lower", "_law_at", "_law_place", "_law_above", "_law_below", "_law_one"] ["_law_places", "_law_kind"] (defScope (topS 49)) := ⟨rfl, rfl, rfl, by decide +kernel, rfl, by decide +kernel, by decide +kernel⟩
noncomputable def b__law_moved_places (ρ : ((List Int) × (Str × (Unit × (Unit × (Unit × (Unit × (Unit × (Unit × (Unit × Unit)))))))))) : M (Ct Unit Unit (List Int)) := (M.thn (M.bind (M.bind (M.bind (M.bind (M.ret ρ.1) fun (x543 : (List Int)) => M.bind (M.ret ()) fun (x544 : Unit) => M.ret (x543, x544)) fun (r545 : ((List Int) × Unit)) => M.ret (r545.1.length : Int)) fun (x546 : Int) => M.need (0 ≤ x546 ∧ x546 ≤ 16777216) (M.ret (rng 0 x546))) fun (x555 : (List Int)) => M.bind (M.bind (M.bind (M.bind (M.ret (0 : Int)) fun (x547 : Int) => M.bind (M.ret ()) fun (x548 : Unit) => M.ret (x547, x548)) fun (r549 : (Int × Unit)) => M.ret [r549.1]) fun (x553 : (List Int)) => M.bind (M.bind (M.bind (M.ret ρ.1) fun (x550 : (List Int)) => M.bind (M.ret ()) fun (x551 : Unit) => M.ret (x550, x551)) fun (r552 : ((List Int) × Unit)) => M.ret (r552.1.length : Int)) fun (x554 : Int) => M.need (-(2 ^ 63) ≤ x554 ∧ x554 < 2 ^ 63 ∧ x553.length * Int.toNat x554 ≤ sizeLine) (M.ret (List.replicate (Int.toNat x554) x553).flatten)) fun (x556 : (List Int)) => M.ret (.nx (ρ.1, ρ.2.1, x555, x556, ρ.2.2.2.2.1, ρ.2.2.2.2.2.1, ρ.2.2.2.2.2.2.1, ρ.2.2.2.2.2.2.2.1, ρ.2.2.2.2.2.2.2.2.1, ρ.2.2.2.2.2.2.2.2.2))) fun (ρ : ((List Int) × (Str × ((List Int) × ((List Int) × (Unit × (Unit × (Unit × (Unit × (Unit × Unit)))))))))) => (M.thn (M.bind (M.bind (M.ret ρ.1) fun (x557 : (List Int)) => M.ret (enum0 x557)) fun (l562 : List (Int × (Int × Unit))) => M.forM l562 (fun (a558 : (Int × (Int × Unit))) (ρ : ((List Int) × (Str × ((List Int) × ((List Int) × (Unit × (Unit × (Unit × (Unit × (Unit × Unit)))))))))) => (fun (ρ : ((List Int) × (Str × ((List Int) × ((List Int) × (Int × (Int × (Unit × (Unit × (Unit × Unit)))))))))) => (M.thn (M.bind (M.ret ρ.2.2.2.2.1) fun (x559 : Int) => M.bind (M.ret ρ.2.2.2.2.2.1) fun (x560 : Int) => M.bind (M.the (ixN ρ.2.2.2.1.length x560)) fun (x561 : Nat) => M.ret (.nx (ρ.1, ρ.2.1, ρ.2.2.1, ρ.2.2.2.1.set x561 x559, ρ.2.2.2.2))) fun (ρ : ((List Int) × (Str × ((List Int) × ((List Int) × (Int × (Int × (Unit × (Unit × (Unit × Unit)))))))))) => M.ret (.nx (ρ.1, ρ.2.1, ρ.2.2.1, ρ.2.2.2.1, (), (), ρ.2.2.2.2.2.2.1, ρ.2.2.2.2.2.2.2.1, ρ.2.2.2.2.2.2.2.2.1, ρ.2.2.2.2.2.2.2.2.2)))) (ρ.1, ρ.2.1, ρ.2.2.1, ρ.2.2.2.1, a558.1, a558.2.1, ρ.2.2.2.2.2.2.1, ρ.2.2.2.2.2.2.2.1, ρ.2.2.2.2.2.2.2.2.1, ρ.2.2.2.2.2.2.2.2.2)) ρ) fun (ρ : ((List Int) × (Str × ((List Int) × ((List Int) × (Unit × (Unit × (Unit × (Unit × (Unit × Unit)))))))))) => (M.thn (M.bind (M.bind (M.bind (M.ret (1 : Int)) fun (x563 : Int) => M.ret (-x563)) fun (x564 : Int) => M.the (atI ρ.2.2.1 x564)) fun (x567 : Int) => M.bind (M.bind (M.bind (M.ret (1 : Int)) fun (x565 : Int) => M.ret (-x565)) fun (x566 : Int) => M.the (atI ρ.2.2.2.1 x566)) fun (x568 : Int) => M.ret (.nx (ρ.1, ρ.2.1, ρ.2.2.1, ρ.2.2.2.1, ρ.2.2.2.2.1, ρ.2.2.2.2.2.1, x567, x568, ρ.2.2.2.2.2.2.2.2.1, ρ.2.2.2.2.2.2.2.2.2))) fun (ρ : ((List Int) × (Str × ((List Int) × ((List Int) × (Unit × (Unit × (Int × (Int × (Unit × Unit)))))))))) => (M.thn (M.bind (M.bind (M.ret ρ.2.1) fun (x569 : Str) => M.bind (M.ret ("upper" : Str)) fun (x570 : Str) => M.ret (decide (x569 = x570))) fun (x583 : Bool) => M.ifb x583 (M.thn (M.bind (M.the ρ.2.2.2.1.getLast?) fun (a571 : Int) => M.ret (.nx (ρ.1, ρ.2.1, ρ.2.2.1, ρ.2.2.2.1.dropLast, ρ.2.2.2.2))) fun (ρ : ((List Int) × (Str × ((List Int) × ((List Int) × (Unit × (Unit × (Int × (Int × (Unit × Unit)))))))))) => (M.bind (M.bind (M.bind (M.ret ρ.2.2.2.2.2.2.1) fun (x572 : Int) => M.need (x572 ∈ ρ.2.2.2.1) (M.ret (List.idxOf x572 ρ.2.2.2.1 : Int))) fun (x573 : Int) => M.bind (M.ret (1 : Int)) fun (x574 : Int) => M.ret (x573 + x574)) fun (x575 : Int) => M.bind (M.ret ρ.2.2.2.2.2.2.2.1) fun (x576 : Int) => M.need (ρ.2.2.2.1.length < sizeLine ∧ 0 ≤ x575 ∧ x575 < 2 ^ 62) (M.ret (.nx (ρ.1, ρ.2.1, ρ.2.2.1, ρ.2.2.2.1.take (Int.toNat x575) ++ [x576] ++ ρ.2.2.2.1.drop (Int.toNat x575), ρ.2.2.2.2))))) (M.thn (M.bind (M.the ρ.2.2.1.getLast?) fun (a577 : Int) => M.ret (.nx (ρ.1, ρ.2.1, ρ.2.2.1.dropLast, ρ.2.2.2))) fun (ρ : ((List Int) × (Str × ((List Int) × ((List Int) × (Unit × (Unit × (Int × (Int × (Unit × Unit)))))))))) => (M.bind (M.bind (M.bind (M.ret ρ.2.2.2.2.2.2.2.1) fun (x578 : Int) => M.need (x578 ∈ ρ.2.2.1) (M.ret (List.idxOf x578 ρ.2.2.1 : Int))) fun (x579 : Int) => M.bind (M.ret (1 : Int)) fun (x580 : Int) => M.ret (x579 + x580)) fun (x581 : Int) => M.bind (M.ret ρ.2.2.2.2.2.2.1) fun (x582 : Int) => M.need (ρ.2.2.1.length < sizeLine ∧ 0 ≤ x581 ∧ x581 < 2 ^ 62) (M.ret (.nx (ρ.1, ρ.2.1, ρ.2.2.1.take (Int.toNat x581) ++ [x582] ++ ρ.2.2.1.drop (Int.toNat x581), ρ.2.2.2)))))) fun (ρ : ((List Int) × (Str × ((List Int) × ((List Int) × (Unit × (Unit × (Int × (Int × (Unit × Unit)))))))))) => (M.bind (M.bind (M.bind (M.bind (M.ret ρ.2.2.1) fun (l586 : List Int) => M.need (l586.length ≤ 1000000) (M.lcM l586 fun (a587 : Int) => M.bind ((fun (ρ : ((List Int) × (Str × ((List Int) × ((List Int) × (Unit × (Unit × (Int × (Int × (Int × Unit)))))))))) => (M.ret true)) (ρ.1, ρ.2.1, ρ.2.2.1, ρ.2.2.2.1, ρ.2.2.2.2.1, ρ.2.2.2.2.2.1, ρ.2.2.2.2.2.2.1, ρ.2.2.2.2.2.2.2.1, a587, ρ.2.2.2.2.2.2.2.2.2)) fun (b588 : Bool) => M.ifb b588 (M.bind ((fun (ρ : ((List Int) × (Str × ((List Int) × ((List Int) × (Unit × (Unit × (Int × (Int × (Int × Unit)))))))))) => (M.bind (M.ret ρ.2.2.2.2.2.2.2.2.1) fun (x584 : Int) => M.need (x584 ∈ ρ.2.2.2.1) (M.ret (List.idxOf x584 ρ.2.2.2.1 : Int)))) (ρ.1, ρ.2.1, ρ.2.2.1, ρ.2.2.2.1, ρ.2.2.2.2.1, ρ.2.2.2.2.2.1, ρ.2.2.2.2.2.2.1, ρ.2.2.2.2.2.2.2.1, a587, ρ.2.2.2.2.2.2.2.2.2)) fun (y589 : Int) => M.ret (some y589)) (M.ret none))) fun (x590 : (List Int)) => M.bind (M.ret ()) fun (x591 : Unit) => M.ret (x590, x591)) fun (r592 : ((List Int) × Unit)) => M.ret r592.1) fun (x593 : (List Int)) => M.ret (.rt x593))))))
noncomputable def m__law_moved_places (a : ((List Int) × (Str × Unit))) : M (List Int) := M.fin (b__law_moved_places (a.1, (a.2.1, ((), ((), ((), ((), ((), ((), ((), ()))))))))))
theorem ok__law_moved_places (F : Fun K "_law_moved_places" "_law_moved_places" (topS 49) f fd) (fr : Free mg) : FnOk P w K mg base CX0 2 f fd ["_law_places", "_law_kind"] (spOf (aCons (rTpd rInt) (aCons rStr aNil)) (rTpd rInt) m__law_moved_places) := by
  refine F.ok sc__law_moved_places (fun vs H Q E h => spOf_len h) (fun cdv A outer s H vs Q E hr h => ⟨_, (pss_cons (ps_asg (pe_tup (pa_cons (pe_listRg rfl (by rfl) fr.b_list (prg_1 (by rfl) fr.b_range (pe_callB call_len (by rfl) fr.b_len (by decide +kernel) (pa_cons (pv 0) pa_nil)))) (pa_cons (pe_op op_rep (pe_lst (pa_cons pe_int pa_nil)) (pe_callB call_len (by rfl) fr.b_len (by decide +kernel) (pa_cons (pv 0) pa_nil))) pa_nil))) (pg_tup (by rfl) (pgs_cons (pg_name (i := 2) sc__law_moved_places.nd rfl (by first | exact Or.inl rfl | exact Or.inr rfl)) (pgs_cons (pg_name (i := 3) sc__law_moved_places.nd rfl (by first | exact Or.inl rfl | exact Or.inr rfl)) pgs_nil))))
  (pss_cons (ps_for PassesOwn.never rfl (pi_enT (by rfl) fr.b_enumerate (pa_cons (pv 0) pa_nil)) (pg_tup (by rfl) (pgs_cons (pg_name (i := 4) sc__law_moved_places.nd rfl (by first | exact Or.inl rfl | exact Or.inr rfl)) (pgs_cons (pg_name (i := 5) sc__law_moved_places.nd rfl (by first | exact Or.inl rfl | exact Or.inr rfl)) pgs_nil))) (pss_one (ps_asg (pv 4) (pg_sub (pv 3) (pv 5) set_list))))
  (pss_cons (ps_par (i := 6) (j := 7) (by rfl) sc__law_moved_places.nd rfl rfl (by decide) rfl rfl (pa_cons (pe_ix (ix_list : IxR _ (rIxL K)) (pv 2) (pe_un un_neg pe_int) (fun _ _ => rfl)) (pa_cons (pe_ix (ix_list : IxR _ (rIxL K)) (pv 3) (pe_un un_neg pe_int) (fun _ _ => rfl)) pa_nil)) (by rfl))
  (pss_cons (ps_if (pt_cmpR op_eq (pv 1) pe_str (nomark _)) (pss_cons (ps_expr (pe_bm0 PySem.F.plainAttrs_list PySem.F.slot_list_pop PySem.F.type_list_pop mt_pop (pv 3)))
  (pss_one (ps_expr (pe_bm PySem.F.plainAttrs_list PySem.F.slot_list_insert PySem.F.type_list_insert mt_insert (pv 3) (pa_cons (pe_op op_add (pe_bm PySem.F.plainAttrs_list PySem.F.slot_list_index PySem.F.type_list_index (mt_index : MtR _ _ (rIndex K)) (pv 3) (pa_cons (pv 6) pa_nil)) pe_int) (pa_cons (pv 7) pa_nil)))))) (pss_cons (ps_expr (pe_bm0 PySem.F.plainAttrs_list PySem.F.slot_list_pop PySem.F.type_list_pop mt_pop (pv 2)))
  (pss_one (ps_expr (pe_bm PySem.F.plainAttrs_list PySem.F.slot_list_insert PySem.F.type_list_insert mt_insert (pv 2) (pa_cons (pe_op op_add (pe_bm PySem.F.plainAttrs_list PySem.F.slot_list_index PySem.F.type_list_index (mt_index : MtR _ _ (rIndex K)) (pv 2) (pa_cons (pv 7) pa_nil)) pe_int) (pa_cons (pv 6) pa_nil)))))))
  (pss_one (ps_ret (pe_callTy call_tuple_ofD (by rfl) fr.b_tuple (by decide +kernel) (pa_cons (pe_lc (own := [("_law_one", 8)]) (by rfl) sc__law_moved_places.nd  (pi_list (pv 2)) (blkOk_by (own := [("_law_one", 8)]) (N := ["_law_places", "_law_kind", "_law_upper", "_law_lower", "_law_at", "_law_place", "_law_above", "_law_below", "_law_one"]) (sc := defScope (topS 49)) (by decide +kernel)) (fun _ _ _ _ _ => (pg_name (i := 8) sc__law_moved_places.nd rfl (by first | exact Or.inl rfl | exact Or.inr rfl))) (fun _ _ _ _ _ => pts_nil) (fun _ _ _ _ _ => (pe_bmK (K := K) PySem.F.plainAttrs_list PySem.F.slot_list_index PySem.F.type_list_index (mt_index : MtR _ _ (rIndex K)) (pv 3) (pa_cons (pv 8) pa_nil)))) pa_nil)))))))), ?_⟩)
  refine fn_body (X := E) (S := (aCons (rTpd rInt) (aCons rStr aNil))) (E' := eNil) (R := (rTpd rInt)) (st_par (st_par (st_un (st_un (st_un (st_un (st_un (st_un (st_un st_nil))))))))) rfl (s_seq (s_parT (K := K) (sv_n (n_listRg1 (e_ca (c_len len_tup) (a_cons (e_tpd (K := K) (e_var get0)) a_nil)))) (sv_n (n_op o_rep (SN.se (n_lst (hom_cons hom_nil) (a_cons e_int a_nil) (le_n 1))) (e_ca (c_len len_tup) (a_cons (e_tpd (K := K) (e_var get0)) a_nil)))) (putS (putS put0)) (putS (putS (putS put0))))
  (s_seq (s_for (i_enT (e_tpd (K := K) (e_var get0))) (g_tup (gs_cons (g_name (putS (putS (putS (putS put0))))) (gs_cons (g_name (putS (putS (putS (putS (putS put0)))))) gs_nil)) rfl) (s_post (s_setitem (modS (modS (modS mod0))) (e_var (getS (getS (getS (getS get0))))) (e_var (getS (getS (getS (getS (getS get0))))))) (wk_fg (fg_keep (fg_keep (fg_keep (fg_keep (fg_un (fg_un (fg_keep (fg_keep (fg_keep fg_nil))))))))))))
  (s_seq (s_parV (sv_e (e_ixO (modS (modS mod0)) (e_un (u_ii fun _ => rfl) e_int))) (sv_e (e_ixO (modS (modS (modS mod0))) (e_un (u_ii fun _ => rfl) e_int))) (putS (putS (putS (putS (putS (putS put0)))))) (putS (putS (putS (putS (putS (putS (putS put0))))))))
  (s_seq (s_if (t_of (e_op (o_eq sc_str) (e_var (getS get0)) e_str)) (s_seq (s_popX (modS (modS (modS mod0))))
  (s_insert (modS (modS (modS mod0))) (e_op (o_ii fun _ _ => rfl) (e_indexO fl_int (modS (modS (modS mod0))) (e_var (getS (getS (getS (getS (getS (getS get0)))))))) e_int) (e_var (getS (getS (getS (getS (getS (getS (getS get0)))))))))) (s_seq (s_popX (modS (modS mod0)))
  (s_insert (modS (modS mod0)) (e_op (o_ii fun _ _ => rfl) (e_indexO fl_int (modS (modS mod0)) (e_var (getS (getS (getS (getS (getS (getS (getS get0))))))))) e_int) (e_var (getS (getS (getS (getS (getS (getS get0))))))))))
  (s_pre (wk_fz (fzS (fzS fz0))) (s_ret (e_ca c_tupLD (a_cons (SN.se (n_lc (i_ls (e_var (getS (getS get0)))) (gw_name (putS (putS (putS (putS (putS (putS (putS (putS put0))))))))) t_yes (e_indexO fl_int (modS (modS (modS mod0))) (e_var (getS (getS (getS (getS (getS (getS (getS (getS get0)))))))))))) a_nil)))))))) ?_
  exact h
theorem sc__law_places_of : FnScope ["_law_upper", "_law_lower", "_law_name"] ["_law_upper", "_law_lower"] (defScope (topS 50)) := ⟨rfl, rfl, rfl, by decide +kernel, rfl, by decide +kernel, by decide +kernel⟩
noncomputable def b__law_places_of (ρ : ((List Str) × ((List Str) × (Unit × Unit)))) : M (Ct Unit Unit (List Int)) := (M.bind (M.bind (M.bind (M.bind (M.ret ρ.1) fun (l597 : List Str) => M.need (l597.length ≤ 1000000) (M.lcM l597 fun (a598 : Str) => M.bind ((fun (ρ : ((List Str) × ((List Str) × (Str × Unit)))) => (M.ret true)) (ρ.1, ρ.2.1, a598, ρ.2.2.2)) fun (b599 : Bool) => M.ifb b599 (M.bind ((fun (ρ : ((List Str) × ((List Str) × (Str × Unit)))) => (M.bind (M.ret ρ.2.1) fun (x594 : (List Str)) => M.bind (M.ret ρ.2.2.1) fun (x595 : Str) => M.need (x595 ∈ x594) (M.ret (List.idxOf x595 x594 : Int)))) (ρ.1, ρ.2.1, a598, ρ.2.2.2)) fun (y600 : Int) => M.ret (some y600)) (M.ret none))) fun (x601 : (List Int)) => M.bind (M.ret ()) fun (x602 : Unit) => M.ret (x601, x602)) fun (r603 : ((List Int) × Unit)) => M.ret r603.1) fun (x604 : (List Int)) => M.ret (.rt x604))
noncomputable def m__law_places_of (a : ((List Str) × ((List Str) × Unit))) : M (List Int) := M.fin (b__law_places_of (a.1, (a.2.1, ((), ()))))
theorem ok__law_places_of (F : Fun K "_law_places_of" "_law_places_of" (topS 50) f fd) (fr : Free mg) : FnOk P w K mg base CX0 2 f fd ["_law_upper", "_law_lower"] (spOf (aCons (rLs rStr) (aCons (rLs rStr) aNil)) (rTpd rInt) m__law_places_of) := by
  refine F.ok sc__law_places_of (fun vs H Q E h => spOf_len h) (fun cdv A outer s H vs Q E hr h => ⟨_, (pss_one (ps_ret (pe_callTy call_tuple_ofD (by rfl) fr.b_tuple (by decide +kernel) (pa_cons (pe_lc (own := [("_law_name", 2)]) (by rfl) sc__law_places_of.nd  (pi_list (pv 0)) (blkOk_by (own := [("_law_name", 2)]) (N := ["_law_upper", "_law_lower", "_law_name"]) (sc := defScope (topS 50)) (by decide +kernel)) (fun _ _ _ _ _ => (pg_name (i := 2) sc__law_places_of.nd rfl (by first | exact Or.inl rfl | exact Or.inr rfl))) (fun _ _ _ _ _ => pts_nil) (fun _ _ _ _ _ => (pe_bmK (K := K) PySem.F.plainAttrs_list PySem.F.slot_list_index PySem.F.type_list_index (mt_index : MtR _ _ (rIndex K)) (pv 1) (pa_cons (pv 2) pa_nil)))) pa_nil)))), ?_⟩)
  refine fn_body (X := E) (S := (aCons (rLs rStr) (aCons (rLs rStr) aNil))) (E' := eNil) (R := (rTpd rInt)) (st_par (st_par (st_un st_nil))) rfl (s_ret (e_ca c_tupLD (a_cons (SN.se (n_lc (i_ls (e_var get0)) (gw_name (putS (putS put0))) t_yes (e_index fl_str (e_var (getS get0)) (e_var (getS (getS get0)))))) a_nil))) ?_
  exact h
theorem sc__law_walk_drawn : FnScope ["_law_dice_here", "_law_times", "_law_turn"] ["_law_dice_here", "_law_times"] (defScope (topS 51)) := ⟨rfl, rfl, rfl, by decide +kernel, rfl, by decide +kernel, by decide +kernel⟩
noncomputable def b__law_walk_drawn (ρ : (Unit × (Int × (Unit × Unit)))) : M (Ct Unit Unit (List Str)) := (M.bind (M.bind (M.bind (M.bind (M.bind (M.ret ρ.2.1) fun (x605 : Int) => M.need (-(2 ^ 62) ≤ x605 ∧ x605 < 2 ^ 62) (M.ret (rng 0 x605))) fun (l613 : List Int) => M.need (l613.length ≤ 1000000) (M.lcM l613 fun (a614 : Int) => M.bind ((fun (ρ : (Unit × (Int × (Int × Unit)))) => (M.ret true)) (ρ.1, ρ.2.1, a614, ρ.2.2.2)) fun (b615 : Bool) => M.ifb b615 (M.bind ((fun (ρ : (Unit × (Int × (Int × Unit)))) => (M.bind (M.bind (M.bind (M.ret ("upper" : Str)) fun (x608 : Str) => M.bind (M.bind (M.ret ("lower" : Str)) fun (x606 : Str) => M.bind (M.ret ()) fun (x607 : Unit) => M.ret (x606, x607)) fun (x609 : (Str × Unit)) => M.ret (x608, x609)) fun (r610 : (Str × (Str × Unit))) => M.ret [r610.1, r610.2.1]) fun (x611 : (List Str)) => M.pick x611)) (ρ.1, ρ.2.1, a614, ρ.2.2.2)) fun (y616 : Str) => M.ret (some y616)) (M.ret none))) fun (x617 : (List Str)) => M.bind (M.ret ()) fun (x618 : Unit) => M.ret (x617, x618)) fun (r619 : ((List Str) × Unit)) => M.ret r619.1) fun (x620 : (List Str)) => M.ret (.rt x620))
noncomputable def m__law_walk_drawn (a : (Int × Unit)) : M (List Str) := M.fin (b__law_walk_drawn ((), (a.1, ((), ()))))
theorem ok__law_walk_drawn (F : Fun K "_law_walk_drawn" "_law_walk_drawn" (topS 51) f fd) (fr : Free mg) (G__law_pick : GD P w K mg base "_law_pick" 3 spPick) : FnOk P w K mg base CX0 4 f fd ["_law_dice_here", "_law_times"] (spOfD (aCons rInt aNil) (rTup K rStr) m__law_walk_drawn) := by
  refine F.ok sc__law_walk_drawn (fun vs H Q E h => spOfD_len h) (fun cdv A outer s H vs Q E hr h => ⟨_, (pss_one (ps_ret (pe_callTy call_tuple_of (by rfl) fr.b_tuple (by decide +kernel) (pa_cons (pe_lc (own := [("_law_turn", 2)]) (by rfl) sc__law_walk_drawn.nd  (pi_range1 (by rfl) fr.b_range (pa_cons (pv 1) pa_nil)) (blkOk_by (own := [("_law_turn", 2)]) (N := ["_law_dice_here", "_law_times", "_law_turn"]) (sc := defScope (topS 51)) (by decide +kernel)) (fun _ _ _ _ _ => (pg_name (i := 2) sc__law_walk_drawn.nd rfl (by first | exact Or.inl rfl | exact Or.inr rfl))) (fun _ _ _ _ _ => pts_nil) (fun _ _ _ _ _ => (pe_c1 G__law_pick (hr.mono (by decide)) (pa_cons (pv 0) (pa_cons (pe_lst (pa_cons pe_str (pa_cons pe_str pa_nil))) pa_nil))))) pa_nil)))), ?_⟩)
  refine fn_bodyD (X := E) (S := (aCons rInt aNil)) (E' := eNil) (R := (rTup K rStr)) (st_dice (st_par (st_un st_nil))) rfl (s_ret (e_ca c_tupL (a_cons (SN.se (n_lc (i_rng1 (e_var (getS get0))) (gw_name (putS (putS put0))) t_yes (e_pick get0 (SN.se (n_lst (hom_cons (hom_cons hom_nil)) (a_cons e_str (a_cons e_str a_nil)) (le_n 2)))))) a_nil))) ?_
  exact h
theorem sc__law_by_rule : FnScope ["_law_places", "_law_kind", "_law_last", "_law_at", "_law_found", "_law_place"] ["_law_places", "_law_kind"] (defScope (topS 52)) := ⟨rfl, rfl, rfl, by decide +kernel, rfl, by decide +kernel, by decide +kernel⟩
noncomputable def b__law_by_rule (ρ : ((List Int) × (Str × (Unit × (Unit × (Unit × (Unit × Unit))))))) : M (Ct Unit Unit (List Int)) := (M.thn (M.bind (M.bind (M.bind (M.ret ρ.1) fun (x622 : (List Int)) => M.bind (M.bind (M.ret (1 : Int)) fun (x621 : Int) => M.ret (-x621)) fun (x623 : Int) => M.the (atI x622 x623)) fun (x633 : Int) => M.bind (M.bind (M.bind (M.ret ρ.1) fun (x629 : (List Int)) => M.bind (M.bind (M.bind (M.bind (M.ret ρ.1) fun (x624 : (List Int)) => M.bind (M.ret ()) fun (x625 : Unit) => M.ret (x624, x625)) fun (r626 : ((List Int) × Unit)) => M.ret (r626.1.length : Int)) fun (x627 : Int) => M.bind (M.ret (1 : Int)) fun (x628 : Int) => M.ret (x627 - x628)) fun (x630 : Int) => M.need (x630 ∈ x629) (M.ret (List.idxOf x630 x629 : Int))) fun (x631 : Int) => M.bind (M.ret ()) fun (x632 : Unit) => M.ret (x631, x632)) fun (x634 : (Int × Unit)) => M.ret (x633, x634)) fun (x636 : (Int × (Int × Unit))) => M.ret (.nx (ρ.1, ρ.2.1, x636.1, x636.2.1, ρ.2.2.2.2.1, ρ.2.2.2.2.2.1, ρ.2.2.2.2.2.2))) fun (ρ : ((List Int) × (Str × (Int × (Int × (Unit × (Unit × Unit))))))) => (M.thn (M.bind (M.bind (M.ret ρ.2.1) fun (x637 : Str) => M.bind (M.ret ("lower" : Str)) fun (x638 : Str) => M.ret (decide (x637 = x638))) fun (x661 : Bool) => M.ifb x661 (M.bind (M.bind (M.bind (M.bind (M.ret ρ.1) fun (x642 : (List Int)) => M.bind (M.ret none) fun (x643 : Option Int) => M.bind (M.bind (M.bind (M.ret ρ.2.2.2.1) fun (x639 : Int) => M.bind (M.ret (1 : Int)) fun (x640 : Int) => M.ret (x639 + x640)) fun (x641 : Int) => M.ret (some x641)) fun (x644 : Option Int) => M.ret (cutL x642 x643 x644)) fun (x648 : (List Int)) => M.bind (M.bind (M.bind (M.ret ρ.2.2.1) fun (x645 : Int) => M.bind (M.ret ()) fun (x646 : Unit) => M.ret (x645, x646)) fun (r647 : (Int × Unit)) => M.ret [r647.1]) fun (x649 : (List Int)) => M.need (x648.length + x649.length ≤ sizeLine) (M.ret (x648 ++ x649))) fun (x658 : (List Int)) => M.bind (M.bind (M.ret ρ.1) fun (x655 : (List Int)) => M.bind (M.bind (M.bind (M.ret ρ.2.2.2.1) fun (x650 : Int) => M.bind (M.ret (1 : Int)) fun (x651 : Int) => M.ret (x650 + x651)) fun (x652 : Int) => M.ret (some x652)) fun (x656 : Option Int) => M.bind (M.bind (M.bind (M.ret (1 : Int)) fun (x653 : Int) => M.ret (-x653)) fun (x654 : Int) => M.ret (some x654)) fun (x657 : Option Int) => M.ret (cutL x655 x656 x657)) fun (x659 : (List Int)) => M.need (x658.length + x659.length ≤ sizeLine) (M.ret (x658 ++ x659))) fun (x660 : (List Int)) => M.ret (.rt x660)) (M.ret (.nx ρ))) fun (ρ : ((List Int) × (Str × (Int × (Int × (Unit × (Unit × Unit))))))) => (M.thn (M.bind (M.bind (M.ret ρ.1) fun (l668 : List Int) => M.need (l668.length ≤ 1000000) (M.lcM l668 fun (a669 : Int) => M.bind ((fun (ρ : ((List Int) × (Str × (Int × (Int × (Unit × (Int × Unit))))))) => (M.ret true)) (ρ.1, ρ.2.1, ρ.2.2.1, ρ.2.2.2.1, ρ.2.2.2.2.1, a669, ρ.2.2.2.2.2.2)) fun (b670 : Bool) => M.ifb b670 (M.bind ((fun (ρ : ((List Int) × (Str × (Int × (Int × (Unit × (Int × Unit))))))) => (M.bind (M.bind (M.ret ρ.2.2.2.2.2.1) fun (x662 : Int) => M.bind (M.ret ρ.2.2.1) fun (x663 : Int) => M.ret (decide (x662 ≤ x663))) fun (x666 : Bool) => M.ifb x666 (M.ret ρ.2.2.2.2.2.1) (M.bind (M.ret ρ.2.2.2.2.2.1) fun (x664 : Int) => M.bind (M.ret (1 : Int)) fun (x665 : Int) => M.ret (x664 + x665)))) (ρ.1, ρ.2.1, ρ.2.2.1, ρ.2.2.2.1, ρ.2.2.2.2.1, a669, ρ.2.2.2.2.2.2)) fun (y671 : Int) => M.ret (some y671)) (M.ret none))) fun (x672 : (List Int)) => M.ret (.nx (ρ.1, ρ.2.1, ρ.2.2.1, ρ.2.2.2.1, x672, ρ.2.2.2.2.2))) fun (ρ : ((List Int) × (Str × (Int × (Int × ((List Int) × (Unit × Unit))))))) => (M.thn (M.bind (M.bind (M.ret ρ.2.2.1) fun (x673 : Int) => M.bind (M.ret (1 : Int)) fun (x674 : Int) => M.ret (x673 + x674)) fun (x675 : Int) => M.bind (M.ret ρ.2.2.2.1) fun (x676 : Int) => M.bind (M.the (ixN ρ.2.2.2.2.1.length x676)) fun (x677 : Nat) => M.ret (.nx (ρ.1, ρ.2.1, ρ.2.2.1, ρ.2.2.2.1, ρ.2.2.2.2.1.set x677 x675, ρ.2.2.2.2.2))) fun (ρ : ((List Int) × (Str × (Int × (Int × ((List Int) × (Unit × Unit))))))) => (M.bind (M.bind (M.bind (M.ret ρ.2.2.2.2.1) fun (x678 : (List Int)) => M.bind (M.ret ()) fun (x679 : Unit) => M.ret (x678, x679)) fun (r680 : ((List Int) × Unit)) => M.ret r680.1) fun (x681 : (List Int)) => M.ret (.rt x681))))))
noncomputable def m__law_by_rule (a : ((List Int) × (Str × Unit))) : M (List Int) := M.fin (b__law_by_rule (a.1, (a.2.1, ((), ((), ((), ((), ())))))))
theorem ok__law_by_rule (F : Fun K "_law_by_rule" "_law_by_rule" (topS 52) f fd) (fr : Free mg) : FnOk P w K mg base CX0 2 f fd ["_law_places", "_law_kind"] (spOf (aCons (rTpd rInt) (aCons rStr aNil)) (rTup K rInt) m__law_by_rule) := by
  refine F.ok sc__law_by_rule (fun vs H Q E h => spOf_len h) (fun cdv A outer s H vs Q E hr h => ⟨_, (pss_cons (ps_asg (pe_tup (pa_cons (pe_ix (ix_tup : IxR _ (rIxT K)) (pv 0) (pe_un un_neg pe_int) (fun _ _ => rfl)) (pa_cons (pe_tIdx (K := K) (pv 0) (pe_op op_sub (pe_callB call_len (by rfl) fr.b_len (by decide +kernel) (pa_cons (pv 0) pa_nil)) pe_int)) pa_nil))) (pg_tup (by rfl) (pgs_cons (pg_name (i := 2) sc__law_by_rule.nd rfl (by first | exact Or.inl rfl | exact Or.inr rfl)) (pgs_cons (pg_name (i := 3) sc__law_by_rule.nd rfl (by first | exact Or.inl rfl | exact Or.inr rfl)) pgs_nil))))
  (pss_cons (ps_if (pt_cmpR op_eq (pv 1) pe_str (nomark _)) (pss_one (ps_ret (pe_op op_catA (pe_op op_catA (pe_slice sl_tupA (pv 0) po_none (po_some (pe_op op_add (pv 3) pe_int))) (pe_tup (pa_cons (pv 2) pa_nil))) (pe_slice sl_tupA (pv 0) (po_some (pe_op op_add (pv 3) pe_int)) (po_some (pe_un un_neg pe_int)))))) pss_nil)
  (pss_cons (ps_setLc (i := 4) (own := [("_law_place", 5)]) (by rfl) sc__law_by_rule.nd rfl rfl (sw_true rfl rfl rfl (by decide +kernel)) (pi_tup (pv 0)) (blkOk_by (own := [("_law_place", 5)]) (N := ["_law_places", "_law_kind", "_law_last", "_law_at", "_law_found", "_law_place"]) (sc := defScope (topS 52)) (by decide +kernel)) (fun _ _ _ _ _ => (pg_name (i := 5) sc__law_by_rule.nd rfl (by first | exact Or.inl rfl | exact Or.inr rfl))) (fun _ _ _ _ _ => pts_nil) (fun _ _ _ _ _ => (pe_ifExp (pt_cmpR op_le (pv 5) (pv 2) (nomark _)) (pv 5) (pe_op op_add (pv 5) pe_int))))
  (pss_cons (ps_asg (pe_op op_add (pv 2) pe_int) (pg_sub (pv 4) (pv 3) set_list))
  (pss_one (ps_ret (pe_callTy call_tuple_of (by rfl) fr.b_tuple (by decide +kernel) (pa_cons (pv 4) pa_nil)))))))), ?_⟩)
  refine fn_body (X := E) (S := (aCons (rTpd rInt) (aCons rStr aNil))) (E' := eNil) (R := (rTup K rInt)) (st_par (st_par (st_un (st_un (st_un (st_un st_nil)))))) rfl (s_seq (s_asg (e_tup (a_cons (e_op o_ixT (e_tpd (K := K) (e_var get0)) (e_un (u_ii fun _ => rfl) e_int)) (a_cons (e_indexIT (K := K) (e_var get0) (e_op (o_ii fun _ _ => rfl) (e_ca (c_len len_tup) (a_cons (e_tpd (K := K) (e_var get0)) a_nil)) e_int)) a_nil)) (le_n 2)) (g_tup (gs_cons (g_name (putS (putS put0))) (gs_cons (g_name (putS (putS (putS put0)))) gs_nil)) rfl))
  (s_seq (s_if (t_of (e_op (o_eq sc_str) (e_var (getS get0)) e_str)) (s_ret (e_op o_catT (e_op o_catT (e_sl sl_T (e_tpd (K := K) (e_var get0)) so_none (so_some (e_op (o_ii fun _ _ => rfl) (e_var (getS (getS (getS get0)))) e_int))) (e_tupH (hom_cons hom_nil) (a_cons (e_var (getS (getS get0))) a_nil) (le_n 1))) (e_sl sl_T (e_tpd (K := K) (e_var get0)) (so_some (e_op (o_ii fun _ _ => rfl) (e_var (getS (getS (getS get0)))) e_int)) (so_some (e_un (u_ii fun _ => rfl) e_int))))) s_nil)
  (s_seq (s_new (n_lc (i_tup (e_tpd (K := K) (e_var get0))) (gw_name (putS (putS (putS (putS (putS put0)))))) t_yes (e_if (t_of (e_op (o_ib fun _ _ => rfl) (e_var (getS (getS (getS (getS (getS get0)))))) (e_var (getS (getS get0))))) (e_var (getS (getS (getS (getS (getS get0)))))) (e_op (o_ii fun _ _ => rfl) (e_var (getS (getS (getS (getS (getS get0)))))) e_int))) (putS (putS (putS (putS put0)))))
  (s_seq (s_setitem (modS (modS (modS (modS mod0)))) (e_op (o_ii fun _ _ => rfl) (e_var (getS (getS get0))) e_int) (e_var (getS (getS (getS get0)))))
  (s_pre (wk_fz (fzS (fzS (fzS (fzS fz0))))) (s_ret (e_ca c_tupL (a_cons (e_var (getS (getS (getS (getS get0))))) a_nil)))))))) ?_
  exact h
theorem sc__law_turns_back : FnScope ["_law_places", "_law_kind", "_law_times", "_law_here", "_law_turn"] ["_law_places", "_law_kind"] (defScope (topS 53)) := ⟨rfl, rfl, rfl, by decide +kernel, rfl, by decide +kernel, by decide +kernel⟩
noncomputable def b__law_turns_back (ρ : ((List Int) × (Str × (Unit × (Unit × (Unit × Unit)))))) : M (Ct Unit Unit Bool) := (M.thn (M.bind (M.bind (M.bind (M.bind (M.bind (M.ret ρ.1) fun (x682 : (List Int)) => M.bind (M.ret ()) fun (x683 : Unit) => M.ret (x682, x683)) fun (r684 : ((List Int) × Unit)) => M.ret (r684.1.length : Int)) fun (x685 : Int) => M.bind (M.ret (1 : Int)) fun (x686 : Int) => M.ret (x685 - x686)) fun (x700 : Int) => M.bind (M.bind (M.bind (M.ret ρ.2.1) fun (x687 : Str) => M.bind (M.ret ("upper" : Str)) fun (x688 : Str) => M.ret (decide (x687 = x688))) fun (x699 : Bool) => M.ifb x699 (M.bind (M.ret ρ.1) fun (x690 : (List Int)) => M.bind (M.bind (M.ret (1 : Int)) fun (x689 : Int) => M.ret (-x689)) fun (x691 : Int) => M.the (atI x690 x691)) (M.bind (M.ret ρ.1) fun (x697 : (List Int)) => M.bind (M.bind (M.bind (M.bind (M.ret ρ.1) fun (x692 : (List Int)) => M.bind (M.ret ()) fun (x693 : Unit) => M.ret (x692, x693)) fun (r694 : ((List Int) × Unit)) => M.ret (r694.1.length : Int)) fun (x695 : Int) => M.bind (M.ret (1 : Int)) fun (x696 : Int) => M.ret (x695 - x696)) fun (x698 : Int) => M.need (x698 ∈ x697) (M.ret (List.idxOf x698 x697 : Int)))) fun (x701 : Int) => M.ret (x700 - x701)) fun (x702 : Int) => M.ret (.nx (ρ.1, ρ.2.1, x702, ρ.2.2.2))) fun (ρ : ((List Int) × (Str × (Int × (Unit × (Unit × Unit)))))) => (M.thn (M.bind (M.ret ρ.1) fun (x703 : (List Int)) => M.ret (.nx (ρ.1, ρ.2.1, ρ.2.2.1, x703, ρ.2.2.2.2))) fun (ρ : ((List Int) × (Str × (Int × ((List Int) × (Unit × Unit)))))) => (M.thn (M.bind (M.bind (M.ret ρ.2.2.1) fun (x704 : Int) => M.need (-(2 ^ 62) ≤ x704 ∧ x704 < 2 ^ 62) (M.ret (rng 0 x704))) fun (l722 : List Int) => M.forM l722 (fun (a705 : Int) (ρ : ((List Int) × (Str × (Int × ((List Int) × (Unit × Unit)))))) => (fun (ρ : ((List Int) × (Str × (Int × ((List Int) × (Int × Unit)))))) => (M.thn (M.thn (M.bind (M.bind (M.bind (M.ret ρ.2.2.2.1) fun (x708 : (List Int)) => M.bind (M.bind (M.ret ρ.2.1) fun (x706 : Str) => M.bind (M.ret ()) fun (x707 : Unit) => M.ret (x706, x707)) fun (x709 : (Str × Unit)) => M.ret (x708, x709)) fun (r710 : ((List Int) × (Str × Unit))) => M.still (m_moved r710)) fun (x711 : (List Int)) => M.ret (.nx (ρ.1, ρ.2.1, ρ.2.2.1, x711, ρ.2.2.2.2))) fun (ρ : ((List Int) × (Str × (Int × ((List Int) × (Int × Unit)))))) => (M.bind (M.bind (M.bind (M.ret ρ.2.2.2.1) fun (x712 : (List Int)) => M.bind (M.ret ρ.1) fun (x713 : (List Int)) => M.need (((fun (xs : (List Int)) => PyData.tuple (xs.map PyData.int)) x712).canLay0 = true ∧ ((fun (xs : (List Int)) => PyData.tuple (xs.map PyData.int)) x713).canLay0 = true) (M.ret (PyData.eqv ((fun (xs : (List Int)) => PyData.tuple (xs.map PyData.int)) x712) ((fun (xs : (List Int)) => PyData.tuple (xs.map PyData.int)) x713)))) fun (x718 : Bool) => M.bind (M.bind (M.ret ρ.2.2.2.2.1) fun (x716 : Int) => M.bind (M.bind (M.ret ρ.2.2.1) fun (x714 : Int) => M.bind (M.ret (1 : Int)) fun (x715 : Int) => M.ret (x714 - x715)) fun (x717 : Int) => M.ret (decide (x716 = x717))) fun (x719 : Bool) => M.ret (!decide (x718 = x719))) fun (x721 : Bool) => M.ifb x721 (M.bind (M.ret false) fun (x720 : Bool) => M.ret (.rt x720)) (M.ret (.nx ρ)))) fun (ρ : ((List Int) × (Str × (Int × ((List Int) × (Int × Unit)))))) => M.ret (.nx (ρ.1, ρ.2.1, ρ.2.2.1, ρ.2.2.2.1, (), ρ.2.2.2.2.2)))) (ρ.1, ρ.2.1, ρ.2.2.1, ρ.2.2.2.1, a705, ρ.2.2.2.2.2)) ρ) fun (ρ : ((List Int) × (Str × (Int × ((List Int) × (Unit × Unit)))))) => (M.bind (M.bind (M.ret ρ.2.2.1) fun (x723 : Int) => M.bind (M.ret (0 : Int)) fun (x724 : Int) => M.ret (decide (x724 < x723))) fun (x725 : Bool) => M.ret (.rt x725)))))
noncomputable def m__law_turns_back (a : ((List Int) × (Str × Unit))) : M Bool := M.fin (b__law_turns_back (a.1, (a.2.1, ((), ((), ((), ()))))))
theorem ok__law_turns_back (F : Fun K "_law_turns_back" "_law_turns_back" (topS 53) f fd) (fr : Free mg) (G_moved : GD P w K mg base "moved" 4 (spOf (aCons (rTpd rInt) (aCons rStr aNil)) (rTpd rInt) m_moved)) : FnOk P w K mg base CX0 5 f fd ["_law_places", "_law_kind"] (spOf (aCons (rTpd rInt) (aCons rStr aNil)) rBl m__law_turns_back) := by
  refine F.ok sc__law_turns_back (fun vs H Q E h => spOf_len h) (fun cdv A outer s H vs Q E hr h => ⟨_, (pss_cons (ps_set (i := 2) sc__law_turns_back.nd rfl (by first | exact Or.inl rfl | exact Or.inr rfl) (pe_op op_sub (pe_op op_sub (pe_callB call_len (by rfl) fr.b_len (by decide +kernel) (pa_cons (pv 0) pa_nil)) pe_int) (pe_ifExp (pt_cmpR op_eq (pv 1) pe_str (nomark _)) (pe_ix (ix_tup : IxR _ (rIxT K)) (pv 0) (pe_un un_neg pe_int) (fun _ _ => rfl)) (pe_tIdx (K := K) (pv 0) (pe_op op_sub (pe_callB call_len (by rfl) fr.b_len (by decide +kernel) (pa_cons (pv 0) pa_nil)) pe_int)))))
  (pss_cons (ps_set (i := 3) sc__law_turns_back.nd rfl (by first | exact Or.inl rfl | exact Or.inr rfl) (pv 0))
  (pss_cons (ps_for PassesOwn.never rfl (pi_range1 (by rfl) fr.b_range (pa_cons (pv 2) pa_nil)) (pg_name (i := 4) sc__law_turns_back.nd rfl (by first | exact Or.inl rfl | exact Or.inr rfl)) (pss_cons (ps_set (i := 3) sc__law_turns_back.nd rfl (by first | exact Or.inl rfl | exact Or.inr rfl) (pe_c1 G_moved (hr.mono (by decide)) (pa_cons (pv 3) (pa_cons (pv 1) pa_nil))))
  (pss_one (ps_if (pt_cmpR op_ne (pe_cmpR (op_eqD (hu64 hr) : OpR _ _ (rEqD K)) (pv 3) (pv 0) (nomark _)) (pe_cmpR op_eq (pv 4) (pe_op op_sub (pv 2) pe_int) (nomark _)) (nomark _)) (pss_one (ps_ret pe_bl)) pss_nil))))
  (pss_one (ps_ret (pe_cmpR op_gt (pv 2) pe_int (nomark _))))))), ?_⟩)
  refine fn_body (X := E) (S := (aCons (rTpd rInt) (aCons rStr aNil))) (E' := eNil) (R := rBl) (st_par (st_par (st_un (st_un (st_un st_nil))))) rfl (s_seq (s_asg (e_op (o_ii fun _ _ => rfl) (e_op (o_ii fun _ _ => rfl) (e_ca (c_len len_tup) (a_cons (e_tpd (K := K) (e_var get0)) a_nil)) e_int) (e_if (t_of (e_op (o_eq sc_str) (e_var (getS get0)) e_str)) (e_op o_ixT (e_tpd (K := K) (e_var get0)) (e_un (u_ii fun _ => rfl) e_int)) (e_indexIT (K := K) (e_var get0) (e_op (o_ii fun _ _ => rfl) (e_ca (c_len len_tup) (a_cons (e_tpd (K := K) (e_var get0)) a_nil)) e_int)))) (g_name (putS (putS put0))))
  (s_seq (s_asg (e_var get0) (g_name (putS (putS (putS put0)))))
  (s_seq (s_for (i_rng1 (e_var (getS (getS get0)))) (g_name (putS (putS (putS (putS put0))))) (s_post (s_seq (s_asg (e_call (a_cons (e_var (getS (getS (getS get0)))) (a_cons (e_var (getS get0)) a_nil))) (g_name (putS (putS (putS put0)))))
  (s_if (t_of (e_op (o_ne sc_bl) (e_op (o_eqD (da := (fun (xs : (List Int)) => PyData.tuple (xs.map PyData.int))) (db := (fun (xs : (List Int)) => PyData.tuple (xs.map PyData.int))) (dp_tup dp_int) (dp_tup dp_int)) (e_tpd (K := K) (e_var (getS (getS (getS get0))))) (e_tpd (K := K) (e_var get0))) (e_op (o_eq sc_int) (e_var (getS (getS (getS (getS get0))))) (e_op (o_ii fun _ _ => rfl) (e_var (getS (getS get0))) e_int)))) (s_ret e_bl) s_nil)) (wk_fg (fg_keep (fg_keep (fg_keep (fg_keep (fg_un fg_nil))))))))
  (s_ret (e_op (o_ib fun _ _ => rfl) (e_var (getS (getS get0))) e_int))))) ?_
  exact h
end
end PF2

set_option Elab.async false
set_option linter.all false
set_option maxRecDepth 100000
set_option maxHeartbeats 4000000
set_option exponentiation.threshold 20000
set_option pp.maxSteps 800
namespace PF2
open PF PySem PySem.Spec PyProof.Rows L2 SlX
section
variable {P : Program} {w : World} {K : PySem.W.Frag} {mg : Str → Option Value} {base : Heap} {f CO : Addr} {fd : FuncData}
theorem sc__law_walk_right : FnScope ["_law_dice_here", "_law_upper", "_law_lower", "_law_order", "_law_walk", "_law_names", "_law_name", "_law_other", "_law_here", "_law_at", "_law_kind", "_law_goal", "_law_last"] ["_law_dice_here"] (defScope (topS 54)) := ⟨rfl, rfl, rfl, by decide +kernel, rfl, by decide +kernel, by decide +kernel⟩
noncomputable def b__law_walk_right (ρ : (Unit × (Unit × (Unit × (Unit × (Unit × (Unit × (Unit × (Unit × (Unit × (Unit × (Unit × (Unit × (Unit × Unit)))))))))))))) : M (Ct Unit Unit Bool) := (M.thn (M.bind (M.bind (M.bind (M.bind (M.ret (2 : Int)) fun (x2 : Int) => M.bind (M.bind (M.ret (7 : Int)) fun (x1 : Int) => M.roll x1) fun (x3 : Int) => M.ret (x2 + x3)) fun (x4 : Int) => M.bind (M.ret ()) fun (x5 : Unit) => M.ret (x4, x5)) fun (r6 : (Int × Unit)) => m__law_rows_drawn r6) fun (x7 : ((List Str) × ((List Str) × Unit))) => M.ret (.nx (ρ.1, x7.1, x7.2.1, ρ.2.2.2.1, ρ.2.2.2.2.1, ρ.2.2.2.2.2.1, ρ.2.2.2.2.2.2.1, ρ.2.2.2.2.2.2.2.1, ρ.2.2.2.2.2.2.2.2.1, ρ.2.2.2.2.2.2.2.2.2.1, ρ.2.2.2.2.2.2.2.2.2.2.1, ρ.2.2.2.2.2.2.2.2.2.2.2.1, ρ.2.2.2.2.2.2.2.2.2.2.2.2.1, ρ.2.2.2.2.2.2.2.2.2.2.2.2.2))) fun (ρ : (Unit × ((List Str) × ((List Str) × (Unit × (Unit × (Unit × (Unit × (Unit × (Unit × (Unit × (Unit × (Unit × (Unit × Unit)))))))))))))) => (M.thn (M.bind (M.bind (M.bind (M.bind (M.bind (M.ret ρ.2.1) fun (x8 : (List Str)) => M.bind (M.ret ()) fun (x9 : Unit) => M.ret (x8, x9)) fun (r10 : ((List Str) × Unit)) => M.ret r10.1) fun (x16 : (List Str)) => M.bind (M.bind (M.bind (M.bind (M.ret ρ.2.2.1) fun (x11 : (List Str)) => M.bind (M.ret ()) fun (x12 : Unit) => M.ret (x11, x12)) fun (r13 : ((List Str) × Unit)) => M.ret r13.1) fun (x14 : (List Str)) => M.bind (M.ret ()) fun (x15 : Unit) => M.ret (x14, x15)) fun (x17 : ((List Str) × Unit)) => M.ret (x16, x17)) fun (r18 : ((List Str) × ((List Str) × Unit))) => M.need (okOrd ⟨r18.1, r18.2.1⟩) (M.ret (Od.mk r18.1 r18.2.1))) fun (x23 : Od) => M.bind (M.bind (M.bind (M.bind (M.ret (13 : Int)) fun (x19 : Int) => M.roll x19) fun (x20 : Int) => M.bind (M.ret ()) fun (x21 : Unit) => M.ret (x20, x21)) fun (r22 : (Int × Unit)) => m__law_walk_drawn r22) fun (x24 : (List Str)) => M.ret (.nx (ρ.1, ρ.2.1, ρ.2.2.1, x23, x24, ρ.2.2.2.2.2.1, ρ.2.2.2.2.2.2.1, ρ.2.2.2.2.2.2.2.1, ρ.2.2.2.2.2.2.2.2.1, ρ.2.2.2.2.2.2.2.2.2.1, ρ.2.2.2.2.2.2.2.2.2.2.1, ρ.2.2.2.2.2.2.2.2.2.2.2.1, ρ.2.2.2.2.2.2.2.2.2.2.2.2.1, ρ.2.2.2.2.2.2.2.2.2.2.2.2.2))) fun (ρ : (Unit × ((List Str) × ((List Str) × (Od × ((List Str) × (Unit × (Unit × (Unit × (Unit × (Unit × (Unit × (Unit × (Unit × Unit)))))))))))))) => (M.thn (M.bind (M.ret ([] : (List (Str × Str)))) fun (x25 : (List (Str × Str))) => M.ret (.nx (ρ.1, ρ.2.1, ρ.2.2.1, ρ.2.2.2.1, ρ.2.2.2.2.1, x25, ρ.2.2.2.2.2.2))) fun (ρ : (Unit × ((List Str) × ((List Str) × (Od × ((List Str) × ((List (Str × Str)) × (Unit × (Unit × (Unit × (Unit × (Unit × (Unit × (Unit × Unit)))))))))))))) => (M.thn (M.bind (M.bind (M.bind (M.bind (M.ret ρ.2.1) fun (x26 : (List Str)) => M.bind (M.ret ()) fun (x27 : Unit) => M.ret (x26, x27)) fun (r28 : ((List Str) × Unit)) => M.need (r28.1.length < 64) (M.anyOf fun b => b.Perm r28.1 ∧ sortedS b = true)) fun (x35 : (List Str)) => M.bind (M.bind (M.bind (M.bind (M.bind (M.ret ρ.2.1) fun (x29 : (List Str)) => M.bind (M.ret ()) fun (x30 : Unit) => M.ret (x29, x30)) fun (r31 : ((List Str) × Unit)) => M.ret (r31.1.length : Int)) fun (x32 : Int) => M.bind (M.ret ()) fun (x33 : Unit) => M.ret (x32, x33)) fun (r34 : (Int × Unit)) => m__law_names_drawn r34) fun (x36 : (List Str)) => M.ret (zip2 x35 x36)) fun (l40 : List (Str × (Str × Unit))) => M.forM l40 (fun (a37 : (Str × (Str × Unit))) (ρ : (Unit × ((List Str) × ((List Str) × (Od × ((List Str) × ((List (Str × Str)) × (Unit × (Unit × (Unit × (Unit × (Unit × (Unit × (Unit × Unit)))))))))))))) => (fun (ρ : (Unit × ((List Str) × ((List Str) × (Od × ((List Str) × ((List (Str × Str)) × (Str × (Str × (Unit × (Unit × (Unit × (Unit × (Unit × Unit)))))))))))))) => (M.thn (M.bind (M.ret ρ.2.2.2.2.2.2.2.1) fun (x38 : Str) => M.bind (M.ret ρ.2.2.2.2.2.2.1) fun (x39 : Str) => M.need (ρ.2.2.2.2.2.1.length < sizeLine) (M.ret (.nx (ρ.1, ρ.2.1, ρ.2.2.1, ρ.2.2.2.1, ρ.2.2.2.2.1, dput ρ.2.2.2.2.2.1 x39 x38, ρ.2.2.2.2.2.2)))) fun (ρ : (Unit × ((List Str) × ((List Str) × (Od × ((List Str) × ((List (Str × Str)) × (Str × (Str × (Unit × (Unit × (Unit × (Unit × (Unit × Unit)))))))))))))) => M.ret (.nx (ρ.1, ρ.2.1, ρ.2.2.1, ρ.2.2.2.1, ρ.2.2.2.2.1, ρ.2.2.2.2.2.1, (), (), ρ.2.2.2.2.2.2.2.2.1, ρ.2.2.2.2.2.2.2.2.2.1, ρ.2.2.2.2.2.2.2.2.2.2.1, ρ.2.2.2.2.2.2.2.2.2.2.2.1, ρ.2.2.2.2.2.2.2.2.2.2.2.2.1, ρ.2.2.2.2.2.2.2.2.2.2.2.2.2)))) (ρ.1, ρ.2.1, ρ.2.2.1, ρ.2.2.2.1, ρ.2.2.2.2.1, ρ.2.2.2.2.2.1, a37.1, a37.2.1, ρ.2.2.2.2.2.2.2.2.1, ρ.2.2.2.2.2.2.2.2.2.1, ρ.2.2.2.2.2.2.2.2.2.2.1, ρ.2.2.2.2.2.2.2.2.2.2.2.1, ρ.2.2.2.2.2.2.2.2.2.2.2.2.1, ρ.2.2.2.2.2.2.2.2.2.2.2.2.2)) ρ) fun (ρ : (Unit × ((List Str) × ((List Str) × (Od × ((List Str) × ((List (Str × Str)) × (Unit × (Unit × (Unit × (Unit × (Unit × (Unit × (Unit × Unit)))))))))))))) => (M.thn (M.bind (M.bind (M.bind (M.ret ρ.2.1) fun (x43 : (List Str)) => M.bind (M.bind (M.ret ρ.2.2.1) fun (x41 : (List Str)) => M.bind (M.ret ()) fun (x42 : Unit) => M.ret (x41, x42)) fun (x44 : ((List Str) × Unit)) => M.ret (x43, x44)) fun (r45 : ((List Str) × ((List Str) × Unit))) => M.still (m__law_places_of r45)) fun (x46 : (List Int)) => M.ret (.nx (ρ.1, ρ.2.1, ρ.2.2.1, ρ.2.2.2.1, ρ.2.2.2.2.1, ρ.2.2.2.2.2.1, ρ.2.2.2.2.2.2.1, ρ.2.2.2.2.2.2.2.1, x46, ρ.2.2.2.2.2.2.2.2.2))) fun (ρ : (Unit × ((List Str) × ((List Str) × (Od × ((List Str) × ((List (Str × Str)) × (Unit × (Unit × ((List Int) × (Unit × (Unit × (Unit × (Unit × Unit)))))))))))))) => (M.thn (M.bind (M.bind (M.bind (M.bind (M.ret ρ.2.2.2.1) fun (x47 : Od) => M.still (m_Order_places (x47, ()))) fun (x48 : (List Int)) => M.bind (M.ret ρ.2.2.2.2.2.2.2.2.1) fun (x49 : (List Int)) => M.need (((fun (xs : (List Int)) => PyData.tuple (xs.map PyData.int)) x48).canLay0 = true ∧ ((fun (xs : (List Int)) => PyData.tuple (xs.map PyData.int)) x49).canLay0 = true) (M.ret (!PyData.eqv ((fun (xs : (List Int)) => PyData.tuple (xs.map PyData.int)) x48) ((fun (xs : (List Int)) => PyData.tuple (xs.map PyData.int)) x49)))) fun (x63 : Bool) => M.ifb x63 (M.ret true) (M.bind (M.bind (M.bind (M.bind (M.ret ρ.2.2.2.2.2.2.2.2.1) fun (x52 : (List Int)) => M.bind (M.bind (M.ret ("upper" : Str)) fun (x50 : Str) => M.bind (M.ret ()) fun (x51 : Unit) => M.ret (x50, x51)) fun (x53 : (Str × Unit)) => M.ret (x52, x53)) fun (r54 : ((List Int) × (Str × Unit))) => M.still (m__law_turns_back r54)) fun (x55 : Bool) => M.ret (!x55)) fun (x62 : Bool) => M.ifb x62 (M.ret true) (M.bind (M.bind (M.bind (M.ret ρ.2.2.2.2.2.2.2.2.1) fun (x58 : (List Int)) => M.bind (M.bind (M.ret ("lower" : Str)) fun (x56 : Str) => M.bind (M.ret ()) fun (x57 : Unit) => M.ret (x56, x57)) fun (x59 : (Str × Unit)) => M.ret (x58, x59)) fun (r60 : ((List Int) × (Str × Unit))) => M.still (m__law_turns_back r60)) fun (x61 : Bool) => M.ret (!x61)))) fun (x65 : Bool) => M.ifb x65 (M.bind (M.ret false) fun (x64 : Bool) => M.ret (.rt x64)) (M.ret (.nx ρ))) fun (ρ : (Unit × ((List Str) × ((List Str) × (Od × ((List Str) × ((List (Str × Str)) × (Unit × (Unit × ((List Int) × (Unit × (Unit × (Unit × (Unit × Unit)))))))))))))) => (M.thn (M.bind (M.bind (M.ret ρ.2.2.2.2.1) fun (x66 : (List Str)) => M.ret (enum0 x66)) fun (l108 : List (Int × (Str × Unit))) => M.forM l108 (fun (a67 : (Int × (Str × Unit))) (ρ : (Unit × ((List Str) × ((List Str) × (Od × ((List Str) × ((List (Str × Str)) × (Unit × (Unit × ((List Int) × (Unit × (Unit × (Unit × (Unit × Unit)))))))))))))) => (fun (ρ : (Unit × ((List Str) × ((List Str) × (Od × ((List Str) × ((List (Str × Str)) × (Unit × (Unit × ((List Int) × (Int × (Str × (Unit × (Unit × Unit)))))))))))))) => (M.thn (M.thn (M.bind (M.bind (M.bind (M.ret ρ.2.2.2.2.2.2.2.2.1) fun (x70 : (List Int)) => M.bind (M.bind (M.ret ρ.2.2.2.2.2.2.2.2.2.2.1) fun (x68 : Str) => M.bind (M.ret ()) fun (x69 : Unit) => M.ret (x68, x69)) fun (x71 : (Str × Unit)) => M.ret (x70, x71)) fun (r72 : ((List Int) × (Str × Unit))) => M.still (m__law_moved_places r72)) fun (x73 : (List Int)) => M.ret (.nx (ρ.1, ρ.2.1, ρ.2.2.1, ρ.2.2.2.1, ρ.2.2.2.2.1, ρ.2.2.2.2.2.1, ρ.2.2.2.2.2.2.1, ρ.2.2.2.2.2.2.2.1, ρ.2.2.2.2.2.2.2.2.1, ρ.2.2.2.2.2.2.2.2.2.1, ρ.2.2.2.2.2.2.2.2.2.2.1, x73, ρ.2.2.2.2.2.2.2.2.2.2.2.2))) fun (ρ : (Unit × ((List Str) × ((List Str) × (Od × ((List Str) × ((List (Str × Str)) × (Unit × (Unit × ((List Int) × (Int × (Str × ((List Int) × (Unit × Unit)))))))))))))) => (M.thn (M.bind (M.bind (M.bind (M.bind (M.bind (M.ret ρ.2.2.2.2.2.2.2.2.1) fun (x76 : (List Int)) => M.bind (M.bind (M.ret ρ.2.2.2.2.2.2.2.2.2.2.1) fun (x74 : Str) => M.bind (M.ret ()) fun (x75 : Unit) => M.ret (x74, x75)) fun (x77 : (Str × Unit)) => M.ret (x76, x77)) fun (r78 : ((List Int) × (Str × Unit))) => M.still (m_moved r78)) fun (x79 : (List Int)) => M.bind (M.ret ρ.2.2.2.2.2.2.2.2.2.2.2.1) fun (x80 : (List Int)) => M.need (((fun (xs : (List Int)) => PyData.tuple (xs.map PyData.int)) x79).canLay0 = true ∧ ((fun (xs : (List Int)) => PyData.tuple (xs.map PyData.int)) x80).canLay0 = true) (M.ret (!PyData.eqv ((fun (xs : (List Int)) => PyData.tuple (xs.map PyData.int)) x79) ((fun (xs : (List Int)) => PyData.tuple (xs.map PyData.int)) x80)))) fun (x88 : Bool) => M.ifb x88 (M.ret true) (M.bind (M.bind (M.bind (M.ret ρ.2.2.2.2.2.2.2.2.1) fun (x83 : (List Int)) => M.bind (M.bind (M.ret ρ.2.2.2.2.2.2.2.2.2.2.1) fun (x81 : Str) => M.bind (M.ret ()) fun (x82 : Unit) => M.ret (x81, x82)) fun (x84 : (Str × Unit)) => M.ret (x83, x84)) fun (r85 : ((List Int) × (Str × Unit))) => M.still (m__law_by_rule r85)) fun (x86 : (List Int)) => M.bind (M.ret ρ.2.2.2.2.2.2.2.2.2.2.2.1) fun (x87 : (List Int)) => M.need (((fun (xs : (List Int)) => PyData.tuple (xs.map PyData.int)) x86).canLay0 = true ∧ ((fun (xs : (List Int)) => PyData.tuple (xs.map PyData.int)) x87).canLay0 = true) (M.ret (!PyData.eqv ((fun (xs : (List Int)) => PyData.tuple (xs.map PyData.int)) x86) ((fun (xs : (List Int)) => PyData.tuple (xs.map PyData.int)) x87))))) fun (x90 : Bool) => M.ifb x90 (M.bind (M.ret false) fun (x89 : Bool) => M.ret (.rt x89)) (M.ret (.nx ρ))) fun (ρ : (Unit × ((List Str) × ((List Str) × (Od × ((List Str) × ((List (Str × Str)) × (Unit × (Unit × ((List Int) × (Int × (Str × ((List Int) × (Unit × Unit)))))))))))))) => (M.thn (M.bind (M.ret ρ.2.2.2.2.2.2.2.2.2.2.2.1) fun (x91 : (List Int)) => M.ret (.nx (ρ.1, ρ.2.1, ρ.2.2.1, ρ.2.2.2.1, ρ.2.2.2.2.1, ρ.2.2.2.2.2.1, ρ.2.2.2.2.2.2.1, ρ.2.2.2.2.2.2.2.1, x91, ρ.2.2.2.2.2.2.2.2.2))) fun (ρ : (Unit × ((List Str) × ((List Str) × (Od × ((List Str) × ((List (Str × Str)) × (Unit × (Unit × ((List Int) × (Int × (Str × ((List Int) × (Unit × Unit)))))))))))))) => (M.bind (M.bind (M.bind (M.bind (M.bind (M.ret ρ.2.2.2.1) fun (x100 : Od) => M.bind (M.bind (M.bind (M.ret ρ.2.2.2.2.1) fun (x95 : (List Str)) => M.bind (M.ret none) fun (x96 : Option Int) => M.bind (M.bind (M.bind (M.ret ρ.2.2.2.2.2.2.2.2.2.1) fun (x92 : Int) => M.bind (M.ret (1 : Int)) fun (x93 : Int) => M.ret (x92 + x93)) fun (x94 : Int) => M.ret (some x94)) fun (x97 : Option Int) => M.ret (cutL x95 x96 x97)) fun (x98 : (List Str)) => M.bind (M.ret ()) fun (x99 : Unit) => M.ret (x98, x99)) fun (x101 : ((List Str) × Unit)) => M.ret (x100, x101)) fun (r102 : (Od × ((List Str) × Unit))) => M.still (m_order_behind r102)) fun (x103 : Od) => M.still (m_Order_places (x103, ()))) fun (x104 : (List Int)) => M.bind (M.ret ρ.2.2.2.2.2.2.2.2.1) fun (x105 : (List Int)) => M.need (((fun (xs : (List Int)) => PyData.tuple (xs.map PyData.int)) x104).canLay0 = true ∧ ((fun (xs : (List Int)) => PyData.tuple (xs.map PyData.int)) x105).canLay0 = true) (M.ret (!PyData.eqv ((fun (xs : (List Int)) => PyData.tuple (xs.map PyData.int)) x104) ((fun (xs : (List Int)) => PyData.tuple (xs.map PyData.int)) x105)))) fun (x107 : Bool) => M.ifb x107 (M.bind (M.ret false) fun (x106 : Bool) => M.ret (.rt x106)) (M.ret (.nx ρ)))))) fun (ρ : (Unit × ((List Str) × ((List Str) × (Od × ((List Str) × ((List (Str × Str)) × (Unit × (Unit × ((List Int) × (Int × (Str × ((List Int) × (Unit × Unit)))))))))))))) => M.ret (.nx (ρ.1, ρ.2.1, ρ.2.2.1, ρ.2.2.2.1, ρ.2.2.2.2.1, ρ.2.2.2.2.2.1, ρ.2.2.2.2.2.2.1, ρ.2.2.2.2.2.2.2.1, ρ.2.2.2.2.2.2.2.2.1, (), (), (), ρ.2.2.2.2.2.2.2.2.2.2.2.2.1, ρ.2.2.2.2.2.2.2.2.2.2.2.2.2)))) (ρ.1, ρ.2.1, ρ.2.2.1, ρ.2.2.2.1, ρ.2.2.2.2.1, ρ.2.2.2.2.2.1, ρ.2.2.2.2.2.2.1, ρ.2.2.2.2.2.2.2.1, ρ.2.2.2.2.2.2.2.2.1, a67.1, a67.2.1, ρ.2.2.2.2.2.2.2.2.2.2.2.1, ρ.2.2.2.2.2.2.2.2.2.2.2.2.1, ρ.2.2.2.2.2.2.2.2.2.2.2.2.2)) ρ) fun (ρ : (Unit × ((List Str) × ((List Str) × (Od × ((List Str) × ((List (Str × Str)) × (Unit × (Unit × ((List Int) × (Unit × (Unit × (Unit × (Unit × Unit)))))))))))))) => (M.thn (M.bind (M.bind (M.bind (M.ret ρ.2.2.2.1) fun (x111 : Od) => M.bind (M.bind (M.ret ρ.2.2.2.2.1) fun (x109 : (List Str)) => M.bind (M.ret ()) fun (x110 : Unit) => M.ret (x109, x110)) fun (x112 : ((List Str) × Unit)) => M.ret (x111, x112)) fun (r113 : (Od × ((List Str) × Unit))) => M.still (m_order_behind r113)) fun (x114 : Od) => M.ret (.nx (ρ.1, ρ.2.1, ρ.2.2.1, ρ.2.2.2.1, ρ.2.2.2.2.1, ρ.2.2.2.2.2.1, ρ.2.2.2.2.2.2.1, ρ.2.2.2.2.2.2.2.1, ρ.2.2.2.2.2.2.2.2.1, ρ.2.2.2.2.2.2.2.2.2.1, ρ.2.2.2.2.2.2.2.2.2.2.1, ρ.2.2.2.2.2.2.2.2.2.2.2.1, x114, ρ.2.2.2.2.2.2.2.2.2.2.2.2.2))) fun (ρ : (Unit × ((List Str) × ((List Str) × (Od × ((List Str) × ((List (Str × Str)) × (Unit × (Unit × ((List Int) × (Unit × (Unit × (Unit × (Od × Unit)))))))))))))) => (M.bind (M.bind (M.bind (M.ret ρ.2.2.2.2.2.2.2.2.2.2.2.2.1) fun (x115 : Od) => M.still (m_Order_is_whole (x115, ()))) fun (x132 : Bool) => M.ifb x132 (M.bind (M.bind (M.bind (M.bind (M.ret ρ.2.2.2.1) fun (o119 : Od) => M.bind (M.bind (M.ret ρ.2.2.2.2.2.1) fun (x116 : (List (Str × Str))) => M.bind (M.ret ()) fun (x117 : Unit) => M.ret (x116, x117)) fun (r118 : ((List (Str × Str)) × Unit)) => M.still (m_Order_renamed (o119, r118))) fun (x122 : Od) => M.bind (M.bind (M.ret ρ.2.2.2.2.1) fun (x120 : (List Str)) => M.bind (M.ret ()) fun (x121 : Unit) => M.ret (x120, x121)) fun (x123 : ((List Str) × Unit)) => M.ret (x122, x123)) fun (r124 : (Od × ((List Str) × Unit))) => M.still (m_order_behind r124)) fun (x130 : Od) => M.bind (M.bind (M.bind (M.ret ρ.2.2.2.2.2.2.2.2.2.2.2.2.1) fun (o128 : Od) => M.bind (M.bind (M.ret ρ.2.2.2.2.2.1) fun (x125 : (List (Str × Str))) => M.bind (M.ret ()) fun (x126 : Unit) => M.ret (x125, x126)) fun (r127 : ((List (Str × Str)) × Unit)) => M.still (m_Order_renamed (o128, r127))) fun (x129 : Od) => M.ret (some x129)) fun (x131 : (Option Od)) => M.still (m_Order___eq__ (x130, x131, ()))) (M.ret false)) fun (x133 : Bool) => M.ret (.rt x133))))))))))
noncomputable def m__law_walk_right (a : Unit) : M Bool := M.fin (b__law_walk_right ((), ((), ((), ((), ((), ((), ((), ((), ((), ((), ((), ((), ((), ()))))))))))))))
theorem ok__law_walk_right (F : Fun K "_law_walk_right" "_law_walk_right" (topS 54) f fd) (G__law_roll : GD P w K mg base "_law_roll" 2 spRoll) (G__law_rows_drawn : GD P w K mg base "_law_rows_drawn" 5 (spOfD (aCons rInt aNil) (rTx K (aCons (rLs rStr) (aCons (rLs rStr) aNil))) m__law_rows_drawn)) (fr : Free mg) (G_Order : GM P w K mg base "Order" CO 4 [] (spOfI CO (aCons (rTup K rStr) (aCons (rTup K rStr) aNil)) (rObj CO (vVal rBl (vVal (rTup K rStr) (vVal (rDct Sum.inr rInt) (vVal (rTup K rStr) (vVal (rTup K (rTx K (aCons rStr (aCons rStr aNil)))) (vVal (rTup K rInt) (vVal rStr (vVal (rTup K rStr) (vVal (rDct Sum.inr rInt) vNil)))))))))) m_Order___init__)) (G__law_walk_drawn : GD P w K mg base "_law_walk_drawn" 4 (spOfD (aCons rInt aNil) (rTup K rStr) m__law_walk_drawn)) (G__law_names_drawn : GD P w K mg base "_law_names_drawn" 4 (spOfD (aCons rInt aNil) (rLs rStr) m__law_names_drawn)) (G__law_places_of : GD P w K mg base "_law_places_of" 2 (spOf (aCons (rLs rStr) (aCons (rLs rStr) aNil)) (rTpd rInt) m__law_places_of)) (T : OTx K mg CO) (P_Order_places : GP P w K mg base CO "places" 2 (spOf (aCons (rOrd K CO) aNil) (rTup K rInt) m_Order_places)) (G__law_turns_back : GD P w K mg base "_law_turns_back" 5 (spOf (aCons (rTpd rInt) (aCons rStr aNil)) rBl m__law_turns_back)) (G__law_moved_places : GD P w K mg base "_law_moved_places" 2 (spOf (aCons (rTpd rInt) (aCons rStr aNil)) (rTpd rInt) m__law_moved_places)) (G_moved : GD P w K mg base "moved" 4 (spOf (aCons (rTpd rInt) (aCons rStr aNil)) (rTpd rInt) m_moved)) (G__law_by_rule : GD P w K mg base "_law_by_rule" 2 (spOf (aCons (rTpd rInt) (aCons rStr aNil)) (rTup K rInt) m__law_by_rule)) (G_order_behind : GD P w K mg base "order_behind" 10 (spOf (aCons (rOrd K CO) (aCons (rTup K rStr) aNil)) (rOrd K CO) m_order_behind)) (P_Order_is_whole : GP P w K mg base CO "is_whole" 2 (spOf (aCons (rOrd K CO) aNil) rBl m_Order_is_whole)) (M_Order_renamed : GMe P w K mg base CO "renamed" 6 (spOf (aCons (rOrd K CO) (aCons (rDct Sum.inr rStr) aNil)) (rOrd K CO) m_Order_renamed)) (G_Order_eq : GE P w K mg base CO 2 (spOf (aCons (rOrd K CO) (aCons (rOr K CO (rOrd K CO)) aNil)) rBl m_Order___eq__)) : FnOk P w K mg base CX0 11 f fd ["_law_dice_here"] (spOfD aNil rBl m__law_walk_right) := by
  refine F.ok sc__law_walk_right (fun vs H Q E h => spOfD_len h) (fun cdv A outer s H vs Q E hr h => ⟨_, (pss_cons (ps_asg (pe_c1 G__law_rows_drawn (hr.mono (by decide)) (pa_cons (pv 0) (pa_cons (pe_op op_add pe_int (pe_c1 G__law_roll (hr.mono (by decide)) (pa_cons (pv 0) (pa_cons pe_int pa_nil)))) pa_nil))) (pg_tup (by rfl) (pgs_cons (pg_name (i := 1) sc__law_walk_right.nd rfl (by first | exact Or.inl rfl | exact Or.inr rfl)) (pgs_cons (pg_name (i := 2) sc__law_walk_right.nd rfl (by first | exact Or.inl rfl | exact Or.inr rfl)) pgs_nil))))
  (pss_cons (ps_par (i := 3) (j := 4) (by rfl) sc__law_walk_right.nd rfl rfl (by decide) rfl rfl (pa_cons (pe_m1 G_Order (hr.mono (by decide)) (pa_cons (pe_callTy call_tuple_of (by rfl) fr.b_tuple (by decide +kernel) (pa_cons (pv 1) pa_nil)) (pa_cons (pe_callTy call_tuple_of (by rfl) fr.b_tuple (by decide +kernel) (pa_cons (pv 2) pa_nil)) pa_nil))) (pa_cons (pe_c1 G__law_walk_drawn (hr.mono (by decide)) (pa_cons (pv 0) (pa_cons (pe_c1 G__law_roll (hr.mono (by decide)) (pa_cons (pv 0) (pa_cons pe_int pa_nil))) pa_nil))) pa_nil)) (by rfl))
  (pss_cons (ps_set (i := 5) sc__law_walk_right.nd rfl (by first | exact Or.inl rfl | exact Or.inr rfl) pe_dnewK)
  (pss_cons (ps_for PassesOwn.never rfl (RZ.pi_zipA (by rfl) fr.b_zip (pa_cons (pe_callB cr_sortedS (by rfl) fr.b_sorted (by decide +kernel) (pa_cons (pv 1) pa_nil)) (pa_cons (pe_c1 G__law_names_drawn (hr.mono (by decide)) (pa_cons (pv 0) (pa_cons (pe_callB call_len (by rfl) fr.b_len (by decide +kernel) (pa_cons (pv 1) pa_nil)) pa_nil))) pa_nil))) (pg_tup (by rfl) (pgs_cons (pg_name (i := 6) sc__law_walk_right.nd rfl (by first | exact Or.inl rfl | exact Or.inr rfl)) (pgs_cons (pg_name (i := 7) sc__law_walk_right.nd rfl (by first | exact Or.inl rfl | exact Or.inr rfl)) pgs_nil))) (pss_one (ps_dput (hu_of hr) (pv 5) (pv 6) (pv 7) (by rfl))))
  (pss_cons (ps_set (i := 8) sc__law_walk_right.nd rfl (by first | exact Or.inl rfl | exact Or.inr rfl) (pe_c1 G__law_places_of (hr.mono (by decide)) (pa_cons (pv 1) (pa_cons (pv 2) pa_nil))))
  (pss_cons (ps_if (PW.pt (pw_or (pt_cmpR (op_neD (hu64 hr) : OpR _ _ (rNeD K)) (pe_p1 T.cCO P_Order_places (hr.mono (by decide)) (pv 3)) (pv 8) (nomark _)) (pw_or (pt_not (pt_val (pe_c1 G__law_turns_back (hr.mono (by decide)) (pa_cons (pv 8) (pa_cons pe_str pa_nil))))) (pw_or1 (pt_not (pt_val (pe_c1 G__law_turns_back (hr.mono (by decide)) (pa_cons (pv 8) (pa_cons pe_str pa_nil))))))))) (pss_one (ps_ret pe_bl)) pss_nil)
  (pss_cons (ps_for PassesOwn.never rfl (pi_enT (by rfl) fr.b_enumerate (pa_cons (pv 4) pa_nil)) (pg_tup (by rfl) (pgs_cons (pg_name (i := 9) sc__law_walk_right.nd rfl (by first | exact Or.inl rfl | exact Or.inr rfl)) (pgs_cons (pg_name (i := 10) sc__law_walk_right.nd rfl (by first | exact Or.inl rfl | exact Or.inr rfl)) pgs_nil))) (pss_cons (ps_set (i := 11) sc__law_walk_right.nd rfl (by first | exact Or.inl rfl | exact Or.inr rfl) (pe_c1 G__law_moved_places (hr.mono (by decide)) (pa_cons (pv 8) (pa_cons (pv 10) pa_nil))))
  (pss_cons (ps_if (PW.pt (pw_or (pt_cmpR (op_neD (hu64 hr) : OpR _ _ (rNeD K)) (pe_c1 G_moved (hr.mono (by decide)) (pa_cons (pv 8) (pa_cons (pv 10) pa_nil))) (pv 11) (nomark _)) (pw_or1 (pt_cmpR (op_neD (hu64 hr) : OpR _ _ (rNeD K)) (pe_c1 G__law_by_rule (hr.mono (by decide)) (pa_cons (pv 8) (pa_cons (pv 10) pa_nil))) (pv 11) (nomark _))))) (pss_one (ps_ret pe_bl)) pss_nil)
  (pss_cons (ps_set (i := 8) sc__law_walk_right.nd rfl (by first | exact Or.inl rfl | exact Or.inr rfl) (pv 11))
  (pss_one (ps_if (pt_cmpR (op_neD (hu64 hr) : OpR _ _ (rNeD K)) (pe_p1 T.cCO P_Order_places (hr.mono (by decide)) (pe_c1 G_order_behind (hr.mono (by decide)) (pa_cons (pv 3) (pa_cons (pe_slice sl_tupA (pv 4) po_none (po_some (pe_op op_add (pv 9) pe_int))) pa_nil)))) (pv 8) (nomark _)) (pss_one (ps_ret pe_bl)) pss_nil))))))
  (pss_cons (ps_set (i := 12) sc__law_walk_right.nd rfl (by first | exact Or.inl rfl | exact Or.inr rfl) (pe_c1 G_order_behind (hr.mono (by decide)) (pa_cons (pv 3) (pa_cons (pv 4) pa_nil))))
  (pss_one (ps_lkS (i := 5) (ps_ret (pe_and (pe_p1 T.cCO P_Order_is_whole (hr.mono (by decide)) (pv 12)) (pe_one (pe_cmpR (op_eqE G_Order_eq (hr.mono (by decide)) : OpR _ _ (rCmpS K CO false (spOf (aCons (rOrd K CO) (aCons (rOr K CO (rOrd K CO)) aNil)) rBl m_Order___eq__) E0)) (pe_c1 G_order_behind (hr.mono (by decide)) (pa_cons (pe_me T.cCO M_Order_renamed (hr.mono (by decide)) (pv 3) (pa_cons (pv 5) pa_nil)) (pa_cons (pv 4) pa_nil))) (pe_me T.cCO M_Order_renamed (hr.mono (by decide)) (pv 12) (pa_cons (pv 5) pa_nil)) (nomark _))))))))))))))), ?_⟩)
  refine fn_bodyD (X := E) (S := aNil) (E' := eNil) (R := rBl) (st_dice (st_un (st_un (st_un (st_un (st_un (st_un (st_un (st_un (st_un (st_un (st_un (st_un st_nil))))))))))))) rfl (s_seq (s_asg (e_callD get0 (a_cons (e_op (o_ii fun _ _ => rfl) e_int (e_roll get0 e_int)) a_nil)) (g_tup (gs_cons (g_name (putS put0)) (gs_cons (g_name (putS (putS put0))) gs_nil)) rfl))
  (s_seq (s_parV (sv_e (e_mkOrd (a_cons (e_ca c_tupL (a_cons (e_var (getS get0)) a_nil)) (a_cons (e_ca c_tupL (a_cons (e_var (getS (getS get0))) a_nil)) a_nil)))) (sv_e (e_callD get0 (a_cons (e_roll get0 e_int) a_nil))) (putS (putS (putS put0))) (putS (putS (putS (putS put0)))))
  (s_seq (s_asgV (sv_d (kf := Sum.inr) (Rb := rStr)) (putS (putS (putS (putS (putS put0))))))
  (s_seq (s_for (i_zipL (SN.se (n_ca c_sortS (a_cons (e_var (getS get0)) a_nil))) (e_callD get0 (a_cons (e_ca (c_len len_ls) (a_cons (e_var (getS get0)) a_nil)) a_nil))) (g_tup (gs_cons (g_name (putS (putS (putS (putS (putS (putS put0))))))) (gs_cons (g_name (putS (putS (putS (putS (putS (putS (putS put0)))))))) gs_nil)) rfl) (s_post (s_dset ky_str (modDS (modDS (modDS (modDS (modDS modD0))))) (e_var (getS (getS (getS (getS (getS (getS (getS get0)))))))) (e_var (getS (getS (getS (getS (getS (getS get0)))))))) (wk_fg (fg_keep (fg_keep (fg_keep (fg_keep (fg_keep (fg_keep (fg_un (fg_un (fg_keep (fg_keep (fg_keep (fg_keep (fg_keep fg_nil))))))))))))))))
  (s_seq (s_asg (e_call (a_cons (e_var (getS get0)) (a_cons (e_var (getS (getS get0))) a_nil))) (g_name (putS (putS (putS (putS (putS (putS (putS (putS put0))))))))))
  (s_seq (s_if (t_or (t_of (e_op (o_neD (da := (fun (xs : (List Int)) => PyData.tuple (xs.map PyData.int))) (db := (fun (xs : (List Int)) => PyData.tuple (xs.map PyData.int))) (dp_tup dp_int) (dp_tup dp_int)) (e_prop slr_ord (e_var (getS (getS (getS get0))))) (e_tpd (K := K) (e_var (getS (getS (getS (getS (getS (getS (getS (getS get0)))))))))))) (t_or (t_not (t_b (e_call (a_cons (e_var (getS (getS (getS (getS (getS (getS (getS (getS get0))))))))) (a_cons e_str a_nil))))) (t_not (t_b (e_call (a_cons (e_var (getS (getS (getS (getS (getS (getS (getS (getS get0))))))))) (a_cons e_str a_nil))))))) (s_ret e_bl) s_nil)
  (s_seq (s_for (i_enT (e_var (getS (getS (getS (getS get0)))))) (g_tup (gs_cons (g_name (putS (putS (putS (putS (putS (putS (putS (putS (putS put0)))))))))) (gs_cons (g_name (putS (putS (putS (putS (putS (putS (putS (putS (putS (putS put0))))))))))) gs_nil)) rfl) (s_post (s_seq (s_asg (e_call (a_cons (e_var (getS (getS (getS (getS (getS (getS (getS (getS get0))))))))) (a_cons (e_var (getS (getS (getS (getS (getS (getS (getS (getS (getS (getS get0))))))))))) a_nil))) (g_name (putS (putS (putS (putS (putS (putS (putS (putS (putS (putS (putS put0)))))))))))))
  (s_seq (s_if (t_or (t_of (e_op (o_neD (da := (fun (xs : (List Int)) => PyData.tuple (xs.map PyData.int))) (db := (fun (xs : (List Int)) => PyData.tuple (xs.map PyData.int))) (dp_tup dp_int) (dp_tup dp_int)) (e_tpd (K := K) (e_call (a_cons (e_var (getS (getS (getS (getS (getS (getS (getS (getS get0))))))))) (a_cons (e_var (getS (getS (getS (getS (getS (getS (getS (getS (getS (getS get0))))))))))) a_nil)))) (e_tpd (K := K) (e_var (getS (getS (getS (getS (getS (getS (getS (getS (getS (getS (getS get0))))))))))))))) (t_of (e_op (o_neD (da := (fun (xs : (List Int)) => PyData.tuple (xs.map PyData.int))) (db := (fun (xs : (List Int)) => PyData.tuple (xs.map PyData.int))) (dp_tup dp_int) (dp_tup dp_int)) (e_call (a_cons (e_var (getS (getS (getS (getS (getS (getS (getS (getS get0))))))))) (a_cons (e_var (getS (getS (getS (getS (getS (getS (getS (getS (getS (getS get0))))))))))) a_nil))) (e_tpd (K := K) (e_var (getS (getS (getS (getS (getS (getS (getS (getS (getS (getS (getS get0)))))))))))))))) (s_ret e_bl) s_nil)
  (s_seq (s_asg (e_var (getS (getS (getS (getS (getS (getS (getS (getS (getS (getS (getS get0)))))))))))) (g_name (putS (putS (putS (putS (putS (putS (putS (putS put0))))))))))
  (s_if (t_of (e_op (o_neD (da := (fun (xs : (List Int)) => PyData.tuple (xs.map PyData.int))) (db := (fun (xs : (List Int)) => PyData.tuple (xs.map PyData.int))) (dp_tup dp_int) (dp_tup dp_int)) (e_prop slr_ord (e_call (a_cons (e_var (getS (getS (getS get0)))) (a_cons (e_sl sl_T (e_var (getS (getS (getS (getS get0))))) so_none (so_some (e_op (o_ii fun _ _ => rfl) (e_var (getS (getS (getS (getS (getS (getS (getS (getS (getS get0)))))))))) e_int))) a_nil)))) (e_tpd (K := K) (e_var (getS (getS (getS (getS (getS (getS (getS (getS get0)))))))))))) (s_ret e_bl) s_nil)))) (wk_fg (fg_keep (fg_keep (fg_keep (fg_keep (fg_keep (fg_keep (fg_keep (fg_keep (fg_keep (fg_un (fg_un (fg_un (fg_keep fg_nil))))))))))))))))
  (s_seq (s_asg (e_call (a_cons (e_var (getS (getS (getS get0)))) (a_cons (e_var (getS (getS (getS (getS get0))))) a_nil))) (g_name (putS (putS (putS (putS (putS (putS (putS (putS (putS (putS (putS (putS put0))))))))))))))
  (s_lkS (fzDS (fzDS (fzDS (fzDS (fzDS fzD0))))) (s_ret (e_and (e_prop slr_ord (e_var (getS (getS (getS (getS (getS (getS (getS (getS (getS (getS (getS (getS get0)))))))))))))) (e_op (o_eqN slr_ord (tr_slt T.cCO T.yCO slr_ord)) (e_call (a_cons (e_meth slr_ord (e_var (getS (getS (getS get0)))) (a_cons (e_var (getS (getS (getS (getS (getS get0)))))) a_nil)) (a_cons (e_var (getS (getS (getS (getS get0))))) a_nil))) (e_coeX coe_or (e_meth slr_ord (e_var (getS (getS (getS (getS (getS (getS (getS (getS (getS (getS (getS (getS get0))))))))))))) (a_cons (e_var (getS (getS (getS (getS (getS get0)))))) a_nil))))))))))))))) ?_
  exact h
theorem sc_law : FnScope ["_law_script", "_law_spot", "_law_dice_here"] ["_law_script"] (defScope (topS 55)) := ⟨rfl, rfl, rfl, by decide +kernel, rfl, by decide +kernel, by decide +kernel⟩
noncomputable def b_law (ρ : (Unit × (Unit × (Unit × Unit)))) : M (Ct Unit Unit Bool) := (M.bind (M.bind (M.bind (M.bind (M.bind (M.bind (M.bind (M.bind (M.ret (2 : Int)) fun (x138 : Int) => M.bind (M.bind (M.ret (1 : Int)) fun (x136 : Int) => M.bind (M.bind (M.ret (0 : Int)) fun (x134 : Int) => M.bind (M.ret []) fun (x135 : List Int) => M.ret (x134 :: x135)) fun (x137 : List Int) => M.ret (x136 :: x137)) fun (x139 : List Int) => M.ret (x138 :: x139)) fun (x140 : List Int) => M.need (x140.length ≤ sizeLine) (M.ret x140)) fun (x143 : (List Int)) => M.bind (M.bind (M.ret ("upper" : Str)) fun (x141 : Str) => M.bind (M.ret ()) fun (x142 : Unit) => M.ret (x141, x142)) fun (x144 : (Str × Unit)) => M.ret (x143, x144)) fun (r145 : ((List Int) × (Str × Unit))) => M.still (m_moved r145)) fun (x172 : (List Int)) => M.bind (M.bind (M.bind (M.bind (M.bind (M.bind (M.ret (2 : Int)) fun (x150 : Int) => M.bind (M.bind (M.ret (1 : Int)) fun (x148 : Int) => M.bind (M.bind (M.ret (0 : Int)) fun (x146 : Int) => M.bind (M.ret []) fun (x147 : List Int) => M.ret (x146 :: x147)) fun (x149 : List Int) => M.ret (x148 :: x149)) fun (x151 : List Int) => M.ret (x150 :: x151)) fun (x152 : List Int) => M.need (x152.length ≤ sizeLine) (M.ret x152)) fun (x155 : (List Int)) => M.bind (M.bind (M.ret ("lower" : Str)) fun (x153 : Str) => M.bind (M.ret ()) fun (x154 : Unit) => M.ret (x153, x154)) fun (x156 : (Str × Unit)) => M.ret (x155, x156)) fun (r157 : ((List Int) × (Str × Unit))) => M.still (m_moved r157)) fun (x170 : (List Int)) => M.bind (M.bind (M.bind (M.bind (M.bind (M.bind (M.ret (1 : Int)) fun (x160 : Int) => M.bind (M.bind (M.ret (0 : Int)) fun (x158 : Int) => M.bind (M.ret []) fun (x159 : List Int) => M.ret (x158 :: x159)) fun (x161 : List Int) => M.ret (x160 :: x161)) fun (x162 : List Int) => M.need (x162.length ≤ sizeLine) (M.ret x162)) fun (x165 : (List Int)) => M.bind (M.bind (M.ret ("upper" : Str)) fun (x163 : Str) => M.bind (M.ret ()) fun (x164 : Unit) => M.ret (x163, x164)) fun (x166 : (Str × Unit)) => M.ret (x165, x166)) fun (r167 : ((List Int) × (Str × Unit))) => M.still (m_moved r167)) fun (x168 : (List Int)) => M.bind (M.ret ()) fun (x169 : Unit) => M.ret (x168, x169)) fun (x171 : ((List Int) × Unit)) => M.ret (x170, x171)) fun (x173 : ((List Int) × ((List Int) × Unit))) => M.ret (x172, x173)) fun (r174 : ((List Int) × ((List Int) × ((List Int) × Unit)))) => M.ret [r174.1, r174.2.1, r174.2.2.1]) fun (x201 : (List (List Int))) => M.bind (M.bind (M.bind (M.bind (M.bind (M.ret (1 : Int)) fun (x179 : Int) => M.bind (M.bind (M.ret (2 : Int)) fun (x177 : Int) => M.bind (M.bind (M.ret (0 : Int)) fun (x175 : Int) => M.bind (M.ret ()) fun (x176 : Unit) => M.ret (x175, x176)) fun (x178 : (Int × Unit)) => M.ret (x177, x178)) fun (x180 : (Int × (Int × Unit))) => M.ret (x179, x180)) fun (r181 : (Int × (Int × (Int × Unit)))) => M.ret [r181.1, r181.2.1, r181.2.2.1]) fun (x198 : (List Int)) => M.bind (M.bind (M.bind (M.bind (M.ret (2 : Int)) fun (x186 : Int) => M.bind (M.bind (M.ret (0 : Int)) fun (x184 : Int) => M.bind (M.bind (M.ret (1 : Int)) fun (x182 : Int) => M.bind (M.ret ()) fun (x183 : Unit) => M.ret (x182, x183)) fun (x185 : (Int × Unit)) => M.ret (x184, x185)) fun (x187 : (Int × (Int × Unit))) => M.ret (x186, x187)) fun (r188 : (Int × (Int × (Int × Unit)))) => M.ret [r188.1, r188.2.1, r188.2.2.1]) fun (x196 : (List Int)) => M.bind (M.bind (M.bind (M.bind (M.ret (1 : Int)) fun (x191 : Int) => M.bind (M.bind (M.ret (0 : Int)) fun (x189 : Int) => M.bind (M.ret ()) fun (x190 : Unit) => M.ret (x189, x190)) fun (x192 : (Int × Unit)) => M.ret (x191, x192)) fun (r193 : (Int × (Int × Unit))) => M.ret [r193.1, r193.2.1]) fun (x194 : (List Int)) => M.bind (M.ret ()) fun (x195 : Unit) => M.ret (x194, x195)) fun (x197 : ((List Int) × Unit)) => M.ret (x196, x197)) fun (x199 : ((List Int) × ((List Int) × Unit))) => M.ret (x198, x199)) fun (r200 : ((List Int) × ((List Int) × ((List Int) × Unit)))) => M.ret [r200.1, r200.2.1, r200.2.2.1]) fun (x202 : (List (List Int))) => M.need (((fun (xs : (List (List Int))) => PyData.list (xs.map (fun (xs : (List Int)) => PyData.tuple (xs.map PyData.int)))) x201).canLay0 = true ∧ ((fun (xs : (List (List Int))) => PyData.list (xs.map (fun (xs : (List Int)) => PyData.tuple (xs.map PyData.int)))) x202).canLay0 = true) (M.ret (PyData.eqv ((fun (xs : (List (List Int))) => PyData.list (xs.map (fun (xs : (List Int)) => PyData.tuple (xs.map PyData.int)))) x201) ((fun (xs : (List (List Int))) => PyData.list (xs.map (fun (xs : (List Int)) => PyData.tuple (xs.map PyData.int)))) x202)))) fun (x203 : Bool) => M.ret (.rt x203))
noncomputable def m_law : M Bool := M.fin (b_law ((), ((), ((), ()))))
end
end PF2

set_option Elab.async false
set_option linter.all false
set_option maxRecDepth 100000
set_option maxHeartbeats 400000
set_option exponentiation.threshold 20000
namespace PF2
open PF PySem PySem.Spec PyProof.Rows L2 SlX TL
/-! ### rounds of orders, no program in sight -/
def lst (l : List Str) : Str := l.getLast?.getD ""
def ins (l : List Str) (a b : Str) : List Str := l.take (l.idxOf a + 1) ++ [b] ++ l.drop (l.idxOf a + 1)
theorem lst_eq {l : List Str} (h : 1 ≤ l.length) : l = l.dropLast ++ [lst l] := by
  have ne : l ≠ [] := fun e => by rw [e] at h; cases h
  unfold lst
  rw [List.getLast?_eq_some_getLast ne, Option.getD_some]
  exact (List.dropLast_concat_getLast ne).symm
theorem lst_mem {l : List Str} (h : 1 ≤ l.length) : lst l ∈ l := by
  have e := lst_eq h
  rw [e]; exact List.mem_append_right _ (by rw [← e]; exact List.mem_singleton.mpr rfl)
theorem ins_perm (l : List Str) (a b : Str) : (ins l a b).Perm (b :: l) := by
  unfold ins
  have p : (l.take (l.idxOf a + 1) ++ [b] ++ l.drop (l.idxOf a + 1)).Perm (b :: (l.take (l.idxOf a + 1) ++ l.drop (l.idxOf a + 1))) := by
    rw [List.append_assoc]; exact List.perm_middle
  rw [List.take_append_drop] at p
  exact p
theorem dl_perm {l : List Str} (h : 1 ≤ l.length) : (lst l :: l.dropLast).Perm l := by
  have e := lst_eq h
  have p : (l.dropLast ++ [lst l]).Perm (lst l :: l.dropLast) := List.perm_append_singleton _ _
  rw [← e] at p
  exact p.symm
namespace Od
def stU (o : Od) : Od := ⟨o.up, ins o.lo.dropLast (lst o.up) (lst o.lo)⟩
def stL (o : Od) : Od := ⟨ins o.up.dropLast (lst o.lo) (lst o.up), o.lo⟩
def NoCut (o : Od) : Prop := 2 ≤ o.up.length ∧ ∀ i, 1 ≤ i → i < o.up.length → ¬ ∀ x ∈ o.up.take i, x ∈ o.lo.take i
end Od
section
variable {o : Od}
theorem stL_inv (o : Od) : o.stL = o.inv.stU.inv := rfl
theorem ncut_inv (h : okOrd o) (c : o.NoCut) : o.inv.NoCut := by
  refine ⟨by show 2 ≤ o.lo.length; rw [len_eq h]; exact c.1, fun i h1 h2 k => ?_⟩
  have h2 : i < o.lo.length := h2
  rw [len_eq h] at h2
  refine c.2 i h1 h2 fun x hx => ?_
  have p : (o.lo.take i).Perm (o.up.take i) := perm_sub (nd_take h.lo.nd i) k (by rw [List.length_take, List.length_take, len_eq h]; omega)
  exact p.mem_iff.mpr hx
theorem last_ne (h : okOrd o) (c : o.NoCut) : lst o.up ≠ lst o.lo := fun e => by
  have hl := len_eq h
  have c1 := c.1
  have e1 := lst_eq (l := o.up) (by omega)
  have e2 := lst_eq (l := o.lo) (by omega)
  refine c.2 (o.up.length - 1) (by omega) (by omega) fun x hx => ?_
  rw [← List.dropLast_eq_take] at hx
  rw [← hl, ← List.dropLast_eq_take]
  have nd := h.up.nd
  rw [e1, List.nodup_append] at nd
  have hx2 : x ∈ o.lo := idx_mem h ((List.dropLast_subset _) hx)
  rw [e2] at hx2
  rcases List.mem_append.mp hx2 with z | z
  · exact z
  · exact absurd (List.mem_singleton.mp z) (fun q => nd.2.2 x hx (lst o.up) (List.mem_singleton.mpr rfl) (q.trans e.symm))
theorem a_mem (h : okOrd o) (c : o.NoCut) : lst o.up ∈ o.lo.dropLast := by
  have c1 := c.1
  have hl := len_eq h
  have m : lst o.up ∈ o.lo := idx_mem h (lst_mem (by omega))
  rw [lst_eq (l := o.lo) (by omega)] at m
  rcases List.mem_append.mp m with z | z
  · exact z
  · exact absurd (List.mem_singleton.mp z) (last_ne h c)
theorem stU_ok (h : okOrd o) (c : o.NoCut) : okOrd o.stU := by
  have c1 := c.1
  have hl := len_eq h
  have p : (ins o.lo.dropLast (lst o.up) (lst o.lo)).Perm o.lo := (ins_perm _ _ _).trans (dl_perm (by omega))
  exact ⟨h.up, ⟨Nat.le_trans h.lo.n1 (Nat.le_of_eq p.length_eq.symm), Nat.le_trans (Nat.le_of_eq p.length_eq) h.lo.n40, fun x hx => h.lo.nm x (p.mem_iff.mp hx), p.nodup_iff.mpr h.lo.nd⟩, p.trans h.pm⟩
theorem stU_cut (h : okOrd o) (c : o.NoCut) : o.stU.NoCut := by
  have c1 := c.1
  have hl := len_eq h
  have h' := stU_ok h c
  refine ⟨c1, fun i h1 h2 k => ?_⟩
  have h2 : i < o.up.length := h2
  have am := a_mem h c
  have p : (o.up.take i).Perm (o.stU.lo.take i) := perm_sub (nd_take h.up.nd i) k (by rw [List.length_take, List.length_take, len_eq h']; show min i o.up.length ≤ _; omega)
  have na : lst o.up ∉ o.up.take i := fun z => by
    have e := lst_eq (l := o.up) (by omega)
    have z2 : lst o.up ∈ o.up.dropLast := by
      rw [List.dropLast_eq_take]
      exact (List.take_subset_take_left o.up (by omega)) z
    have nd := h.up.nd
    rw [e, List.nodup_append] at nd
    exact nd.2.2 _ z2 _ (List.mem_singleton.mpr rfl) rfl
  have na2 : lst o.up ∉ o.stU.lo.take i := fun z => na (p.mem_iff.mpr z)
  have il := List.idxOf_lt_length_iff.mpr am
  have ld : o.lo.dropLast.length = o.up.length - 1 := by rw [List.length_dropLast, hl]
  have ik : i ≤ o.lo.dropLast.idxOf (lst o.up) := by
    refine Nat.le_of_not_lt fun z => na2 ?_
    have z2 : o.stU.lo.take (o.lo.dropLast.idxOf (lst o.up) + 1) = o.lo.dropLast.take (o.lo.dropLast.idxOf (lst o.up) + 1) := by
      show (ins o.lo.dropLast (lst o.up) (lst o.lo)).take _ = _
      unfold ins
      rw [List.append_assoc, List.take_append_of_le_length (by rw [List.length_take]; omega), List.take_take, Nat.min_self]
    have z3 : lst o.up ∈ o.stU.lo.take (o.lo.dropLast.idxOf (lst o.up) + 1) := by
      rw [z2]
      exact idx_take.mpr ⟨am, Nat.lt_succ_self _⟩
    exact List.take_subset_take_left _ z z3
  refine c.2 i h1 h2 fun x hx => ?_
  have e : o.stU.lo.take i = o.lo.take i := by
    show (ins o.lo.dropLast (lst o.up) (lst o.lo)).take i = _
    unfold ins
    rw [List.append_assoc, List.take_append_of_le_length (by rw [List.length_take]; omega), List.take_take, Nat.min_eq_left (by omega), List.dropLast_eq_take, List.take_take, Nat.min_eq_left (by omega)]
  rw [← e]
  exact k x hx
theorem stL_ok (h : okOrd o) (c : o.NoCut) : okOrd o.stL := inv_ok (stU_ok (inv_ok h) (ncut_inv h c))
theorem stL_cut (h : okOrd o) (c : o.NoCut) : o.stL.NoCut := ncut_inv (stU_ok (inv_ok h) (ncut_inv h c)) (stU_cut (inv_ok h) (ncut_inv h c))
end
end PF2

set_option Elab.async false
set_option linter.all false
set_option maxRecDepth 100000
set_option maxHeartbeats 400000
set_option exponentiation.threshold 20000
namespace PF2
open PF PySem PySem.Spec PyProof.Rows L2 SlX TL
/-! ### courses, no program in sight -/
def KU : Str := "upper"
def KL : Str := "lower"
def Od.stK (o : Od) (k : Str) : Od := if k = KU then o.stU else o.stL
def Od.win (o : Od) (k : Str) : Str := if k = KU then lst o.up else lst o.lo
def Od.far : Od → List Str → Od
  | o, [] => o
  | o, k :: c => Od.far (o.stK k) c
def Od.wins : Od → List Str → List Str
  | _, [] => []
  | o, k :: c => o.win k :: Od.wins (o.stK k) c
theorem kul : ¬ KL = KU := by decide
/-- all courses of a length, 'lower' ahead of 'upper' -/
def wds : Nat → List (List Str)
  | 0 => [[]]
  | n + 1 => (wds n).map (KL :: ·) ++ (wds n).map (KU :: ·)
def crs : Nat → List (List Str)
  | 0 => [[]]
  | n + 1 => (crs n).flatMap fun c => [c ++ [KL], c ++ [KU]]
theorem wds_crs : ∀ n, crs n = wds n
  | 0 => rfl
  | n + 1 => by
    have key : ∀ n, (wds n).flatMap (fun c => [c ++ [KL], c ++ [KU]]) = wds (n + 1) := by
      intro n
      induction n with
      | zero => rfl
      | succ n ih =>
        have hm : ∀ k : Str, ((wds n).map (k :: ·)).flatMap (fun c => [c ++ [KL], c ++ [KU]]) = (wds (n + 1)).map (k :: ·) := fun k => by
          rw [← ih, List.flatMap_map, List.map_flatMap]
          rfl
        show ((wds n).map (KL :: ·) ++ (wds n).map (KU :: ·)).flatMap _ = (wds (n + 1)).map (KL :: ·) ++ (wds (n + 1)).map (KU :: ·)
        rw [List.flatMap_append, hm, hm]
    rw [crs, wds_crs n, key]
def kput (ks : List Str) (x : Str) : List Str := if x ∈ ks then ks else ks ++ [x]
theorem dput_k (ks : List Str) (x : Str) : dput (ks.map fun k => (k, true)) x true = (kput ks x).map fun k => (k, true) := by
  unfold dput kput
  have e : ((ks.map fun k => (k, true)).any fun p => decide (p.1 = x)) = decide (x ∈ ks) := by
    rw [List.any_map]
    refine Bool.eq_iff_iff.mpr ?_
    rw [List.any_eq_true, decide_eq_true_eq]
    constructor
    · rintro ⟨k, hk, z⟩
      have z : decide (k = x) = true := z
      exact (of_decide_eq_true z) ▸ hk
    · intro h
      exact ⟨x, h, decide_eq_true rfl⟩
  rw [e]
  by_cases h : x ∈ ks
  · rw [if_pos (decide_eq_true h), if_pos h, List.map_map]
    refine List.map_congr_left fun k hk => ?_
    show (if k = x then (k, true) else (k, true)) = (k, true)
    split <;> rfl
  · rw [if_neg (by simpa using h), if_neg h, List.map_append]; rfl
theorem kput_nd {ks : List Str} (h : ks.Nodup) (x : Str) : (kput ks x).Nodup := by
  unfold kput
  by_cases z : x ∈ ks
  · rw [if_pos z]; exact h
  · rw [if_neg z]
    exact List.nodup_append.mpr ⟨h, by simp, fun a ha b hb e => z (by rw [← List.mem_singleton.mp hb, ← e]; exact ha)⟩
theorem kput_mem {ks : List Str} {x y : Str} : y ∈ kput ks x ↔ y ∈ ks ∨ y = x := by
  unfold kput
  by_cases z : x ∈ ks
  · rw [if_pos z]
    exact ⟨.inl, fun h => h.elim id fun e => e ▸ z⟩
  · rw [if_neg z, List.mem_append, List.mem_singleton]
theorem kks_mem : ∀ (ws ks : List Str) {y : Str}, y ∈ ws.foldl kput ks ↔ y ∈ ks ∨ y ∈ ws
  | [], ks, y => by simp
  | w :: ws, ks, y => by
    rw [List.foldl_cons, kks_mem ws, kput_mem, List.mem_cons]
    constructor
    · rintro ((h | h) | h)
      · exact .inl h
      · exact .inr (.inl h)
      · exact .inr (.inr h)
    · rintro (h | h | h)
      · exact .inl (.inl h)
      · exact .inl (.inr h)
      · exact .inr h
theorem kks_nd : ∀ (ws : List Str) {ks : List Str}, ks.Nodup → (ws.foldl kput ks).Nodup
  | [], _, h => h
  | w :: ws, ks, h => by rw [List.foldl_cons]; exact kks_nd ws (kput_nd h w)
/-- what the walk over the waits gives out -/
def outs (o : Od) : Nat → List Str → Od → List Str → List (List Str)
  | 0, c, h, ks => if h = o ∧ ks.length = o.up.length then [c] else []
  | n + 1, c, h, ks => outs o n (c ++ [KL]) h.stL (kput ks (lst h.lo)) ++ outs o n (c ++ [KU]) h.stU (kput ks (lst h.up))
theorem outs_eq (o : Od) : ∀ (n : Nat) (c : List Str) (h : Od) (ks : List Str), outs o n c h ks = ((wds n).filter fun d => decide (h.far d = o ∧ ((h.wins d).foldl kput ks).length = o.up.length)).map (c ++ ·)
  | 0, c, h, ks => by
    unfold outs wds
    by_cases z : h = o ∧ ks.length = o.up.length
    · rw [if_pos z, List.filter_cons_of_pos (a := []) (p := fun d => decide (h.far d = o ∧ ((h.wins d).foldl kput ks).length = o.up.length)) (decide_eq_true z)]; simp
    · rw [if_neg z, List.filter_cons_of_neg (a := []) (p := fun d => decide (h.far d = o ∧ ((h.wins d).foldl kput ks).length = o.up.length)) (fun q => z (of_decide_eq_true q))]; rfl
  | n + 1, c, h, ks => by
    unfold outs wds
    rw [outs_eq o n, outs_eq o n, List.filter_append, List.map_append, List.filter_map, List.filter_map, List.map_map, List.map_map]
    congr 1
    · have e : ((fun x => c ++ x) ∘ fun x => KL :: x) = fun x => c ++ [KL] ++ x := by funext x; simp
      rw [e]; rfl
    · have e : ((fun x => c ++ x) ∘ fun x => KU :: x) = fun x => c ++ [KU] ++ x := by funext x; simp
      rw [e]; rfl
/-- reachable from o -/
structure Rch (o h : Od) : Prop where
  ok : okOrd h
  nc : h.NoCut
  pm : h.up.Perm o.up
section
variable {o h : Od}
theorem Rch.U (r : Rch o h) : Rch o h.stU := ⟨stU_ok r.ok r.nc, stU_cut r.ok r.nc, r.pm⟩
theorem Rch.L (r : Rch o h) : Rch o h.stL := by
  have k := stL_ok r.ok r.nc
  exact ⟨k, stL_cut r.ok r.nc, k.pm.symm.trans (r.ok.pm.trans r.pm)⟩
theorem Rch.K (r : Rch o h) (k : Str) : Rch o (h.stK k) := by
  unfold Od.stK
  split
  · exact r.U
  · exact r.L
theorem Rch.win (r : Rch o h) (k : Str) : h.win k ∈ o.up := by
  have c1 := r.nc.1
  unfold Od.win
  split
  · exact r.pm.mem_iff.mp (lst_mem (by omega))
  · exact r.pm.mem_iff.mp (r.ok.pm.mem_iff.mp (lst_mem (by rw [len_eq r.ok]; omega)))
theorem wins_sub : ∀ (d : List Str) {h : Od}, Rch o h → ∀ x ∈ h.wins d, x ∈ o.up
  | [], _, _, x, hx => by cases hx
  | k :: d, h, r, x, hx => by
    rcases List.mem_cons.mp hx with z | z
    · rw [z]; exact r.win k
    · exact wins_sub d (r.K k) x z
theorem nd_len {α : Type} [DecidableEq α] : ∀ {a b : List α}, a.Nodup → (∀ x ∈ a, x ∈ b) → a.length ≤ b.length
  | [], _, _, _ => Nat.zero_le _
  | x :: a, b, nd, h => by
    have hx := h x (List.mem_cons_self ..)
    have nd' := List.nodup_cons.mp nd
    have ih := nd_len (b := b.erase x) nd'.2 (fun y hy => (List.mem_erase_of_ne (fun e => nd'.1 (by rw [← e]; exact hy))).mpr (h y (List.mem_cons_of_mem _ hy)))
    rw [List.length_erase_of_mem hx] at ih
    have := List.length_pos_of_mem hx
    rw [List.length_cons]; omega
/-- all names have won -/
theorem all_won (r : Rch o o) (d : List Str) : ((o.wins d).foldl kput []).length = o.up.length ↔ setEqB (o.wins d) o.up = true := by
  have nd := kks_nd (o.wins d) (ks := []) List.nodup_nil
  have sb : ∀ x ∈ (o.wins d).foldl kput [], x ∈ o.up := fun x hx => by
    rcases (kks_mem _ _).mp hx with z | z
    · cases z
    · exact wins_sub d r x z
  rw [setEqB_iff]
  constructor
  · intro e x
    have p := perm_sub nd sb (Nat.le_of_eq e.symm)
    constructor
    · exact fun hx => wins_sub d r x hx
    · intro hx
      rcases (kks_mem _ _).mp (p.mem_iff.mpr hx) with z | z
      · cases z
      · exact z
  · intro e
    have p := perm_sub r.ok.up.nd (b := (o.wins d).foldl kput []) (fun x hx => (kks_mem _ _).mpr (.inr ((e x).mpr hx))) (by
      exact nd_len nd sb)
    exact p.length_eq.symm
/-- the loops -/
def Od.loops (o : Od) (n : Nat) : List (List Str) := (wds n).filter fun d => decide (o.far d = o) && setEqB (o.wins d) o.up
theorem outs_loops (r : Rch o o) (n : Nat) : outs o n [] o [] = o.loops n := by
  rw [outs_eq]
  unfold Od.loops
  rw [show ((fun x => [] ++ x) : List Str → List Str) = id from rfl, List.map_id]
  refine List.filter_congr fun d _ => ?_
  refine Bool.eq_iff_iff.mpr ?_
  rw [decide_eq_true_eq, Bool.and_eq_true, decide_eq_true_eq, all_won r]
end
end PF2

set_option Elab.async false
set_option linter.all false
set_option maxRecDepth 100000
set_option maxHeartbeats 400000
set_option exponentiation.threshold 20000
namespace PF2
open PF PySem PySem.Spec PyProof.Rows L2 SlX TL
section
variable {c : Nat} {X : Er → Prop} {o : Od}
theorem eqvAll_strs : ∀ xs ys : List Str, PyData.eqvAll (xs.map PyData.str) (ys.map PyData.str) = decide (xs = ys)
  | [], [] => by simp only [List.map_nil, PyData.eqvAll, decide_true]
  | [], y :: ys => by simp only [List.map_nil, List.map_cons, PyData.eqvAll]; exact (decide_eq_false (by simp)).symm
  | x :: xs, [] => by simp only [List.map_nil, List.map_cons, PyData.eqvAll]; exact (decide_eq_false (by simp)).symm
  | x :: xs, y :: ys => by
    simp only [List.map_cons, PyData.eqvAll, PyData.eqv, eqvAll_strs xs ys, List.cons.injEq]
    by_cases h : x = y
    · subst h; simp
    · have z : (x == y) = false := by simpa using h
      rw [z, Bool.false_and]; exact (decide_eq_false (fun e => h e.1)).symm
theorem eqv_strs (xs ys : List Str) : PyData.eqv (.tuple (xs.map PyData.str)) (.tuple (ys.map PyData.str)) = decide (xs = ys) := by simp only [PyData.eqv]; exact eqvAll_strs xs ys
theorem eqv_strl (xs ys : List Str) : PyData.eqv (.list (xs.map PyData.str)) (.list (ys.map PyData.str)) = decide (xs = ys) := by simp only [PyData.eqv]; exact eqvAll_strs xs ys
theorem w_eq {o o' : Od} {c : Nat} {Q : Bool → Nat → Prop} {X : Er → Prop} (h : okOrd o) (h' : okOrd o') (q : Q (decide (o = o')) c) : (m_Order___eq__ (o, some o', ())).wp c Q X := by
  simp only [m_Order___eq__, b_Order___eq__, M.none_wp, M.bind_wp, M.ret_wp, M.need_wp, M.the_wp, M.ifb_wp, M.anyOf_wp, M.still_wp, M.roll_wp, M.pick_wp, M.thn_wp, M.thn_nx, M.thn_rt, M.thn_bk, M.thn_ct, M.fin_wp, M.fin_rt, M.finN_wp, M.finN_rt, M.finN_nx, M.FK_nx, M.FK_ct, M.FK_bk, M.FK_rt, decide_eq_true_eq, if_true, if_false, Bool.false_eq_true, Bool.not_eq_true', decide_eq_false_iff_not, Bool.not_true, Bool.not_false, ite_not]
  rw [if_pos (show (some o').isSome = true from rfl)]
  refine ⟨o', rfl, ⟨lay_tup (lay_strs h.up.nm), lay_tup (lay_strs h'.up.nm)⟩, ?_⟩
  rw [eqv_strs]
  by_cases e : o.up = o'.up
  · rw [if_pos (decide_eq_true e)]
    refine ⟨o', rfl, ⟨lay_tup (lay_strs h.lo.nm), lay_tup (lay_strs h'.lo.nm)⟩, ?_⟩
    rw [eqv_strs]
    refine cast (congrArg (fun b => Q b c) ?_) q
    cases o; cases o'; simp_all
  · rw [if_neg (by simpa using e)]
    refine cast (congrArg (fun b => Q b c) ?_) q
    exact decide_eq_false (fun z => e (by rw [z]))
theorem cutL_to {α : Type} (xs : List α) (i : Nat) (h : i ≤ xs.length) : cutL xs none (some (i : Int)) = xs.take i := by
  have := cutL_mid xs 0 i (Nat.zero_le _) h
  rw [List.drop_zero] at this
  exact this
theorem cutL_fr {α : Type} (xs : List α) (i : Nat) (h : i ≤ xs.length) : cutL xs (some (i : Int)) none = xs.drop i := by
  unfold cutL
  rw [HT.sIx_nat, Nat.min_eq_left h]
  have e2 : HT.sIx xs.length xs.length none = xs.length := rfl
  rw [e2, List.take_of_length_le (by rw [List.length_drop]; omega)]
theorem at_last {l : List Str} (h : 1 ≤ l.length) : atI l (-1) = some (lst l) := by
  have e := lst_eq h
  rw [e]
  have := atI_last l.dropLast (lst l)
  rw [← e] at this ⊢
  exact this
theorem drop_last {l : List Str} (h : 1 ≤ l.length) (nd : l.Nodup) : (l.filterMap fun x => if x = lst l then none else some x) = l.dropLast := by
  have e := lst_eq h
  have key : ∀ dl : List Str, lst l ∉ dl → ((dl ++ [lst l]).filterMap fun x => if x = lst l then none else some x) = dl := fun dl => by
    induction dl with
    | nil => intro _; simp
    | cons y dl ih =>
      intro hn
      have h1 : ¬ y = lst l := fun z => hn (z ▸ List.mem_cons_self ..)
      rw [List.cons_append, List.filterMap_cons, if_neg h1, ih (fun z => hn (List.mem_cons_of_mem _ z))]
  have nd' := nd
  rw [e, List.nodup_append] at nd'
  have := key l.dropLast (fun z => nd'.2.2 _ z _ (List.mem_singleton.mpr rfl) rfl)
  rw [← e] at this
  exact this
theorem w_put_behind {Q : List Str → Nat → Prop} {row : List Str} {a : Str} (h : okRow row) (ha : a ∈ row.dropLast) (q : Q (ins row.dropLast a (lst row)) c) : (m_put_behind (row, lst row, a, ())).wp c Q X := by
  simp only [m_put_behind, b_put_behind, M.none_wp, M.bind_wp, M.ret_wp, M.need_wp, M.the_wp, M.ifb_wp, M.anyOf_wp, M.still_wp, M.roll_wp, M.pick_wp, M.thn_wp, M.thn_nx, M.thn_rt, M.thn_bk, M.thn_ct, M.fin_wp, M.fin_rt, M.finN_wp, M.finN_rt, M.finN_nx, M.FK_nx, M.FK_ct, M.FK_bk, M.FK_rt, decide_eq_true_eq, if_true, if_false, Bool.false_eq_true, Bool.not_eq_true', decide_eq_false_iff_not, Bool.not_true, Bool.not_false, ite_not]
  have h1 := h.n1
  have h40 := h.n40
  refine ⟨by omega, M.lcM_filter (g := fun x => if x = lst row then none else some x) (fun x hx Q q => ?_) ?_⟩
  · simp only [M.none_wp, M.bind_wp, M.ret_wp, M.need_wp, M.the_wp, M.ifb_wp, M.anyOf_wp, M.still_wp, M.roll_wp, M.pick_wp, M.thn_wp, M.thn_nx, M.thn_rt, M.thn_bk, M.thn_ct, M.fin_wp, M.fin_rt, M.finN_wp, M.finN_rt, M.finN_nx, M.FK_nx, M.FK_ct, M.FK_bk, M.FK_rt, decide_eq_true_eq, if_true, if_false, Bool.false_eq_true, Bool.not_eq_true', decide_eq_false_iff_not, Bool.not_true, Bool.not_false, ite_not]
    by_cases z : x = lst row
    · rw [if_pos z] at q ⊢; exact q
    · rw [if_neg z] at q ⊢; exact q
  rw [drop_last h1 h.nd]
  have il := List.idxOf_lt_length_iff.mpr ha
  have ld : row.dropLast.length ≤ 40 := by rw [List.length_dropLast]; omega
  rw [show ((List.idxOf a row.dropLast : Int) + 1) = ((List.idxOf a row.dropLast + 1 : Nat) : Int) by omega, cutL_to _ _ (by omega), cutL_fr _ _ (by omega), List.append_nil]
  have e : row.dropLast.take (List.idxOf a row.dropLast + 1) ++ lst row :: row.dropLast.drop (List.idxOf a row.dropLast + 1) = ins row.dropLast a (lst row) := by unfold ins; simp
  rw [e]
  exact ⟨ha, sizeL (by rw [(ins_perm _ _ _).length_eq, List.length_cons]; omega), q⟩
theorem a_mem2 (h : okOrd o) (nc : o.NoCut) : lst o.lo ∈ o.up.dropLast := a_mem (inv_ok h) (ncut_inv h nc)
theorem w_led_rows {Q : _ → Nat → Prop} {k : Str} (h : okOrd o) (nc : o.NoCut) (hk : k = KU ∨ k = KL) (q : Q ((o.stK k).up, (o.stK k).lo, ()) c) : (m_led_rows (o.up, o.lo, k, ())).wp c Q X := by
  simp only [m_led_rows, b_led_rows, M.none_wp, M.bind_wp, M.ret_wp, M.need_wp, M.the_wp, M.ifb_wp, M.anyOf_wp, M.still_wp, M.roll_wp, M.pick_wp, M.thn_wp, M.thn_nx, M.thn_rt, M.thn_bk, M.thn_ct, M.fin_wp, M.fin_rt, M.finN_wp, M.finN_rt, M.finN_nx, M.FK_nx, M.FK_ct, M.FK_bk, M.FK_rt, decide_eq_true_eq, if_true, if_false, Bool.false_eq_true, Bool.not_eq_true', decide_eq_false_iff_not, Bool.not_true, Bool.not_false, ite_not]
  have c1 := nc.1
  refine ⟨_, at_last (by omega), _, at_last (by rw [len_eq h]; omega), ?_⟩
  unfold Od.stK at q
  rcases hk with z | z
  · rw [if_pos z] at q
    exact (if_pos z).mpr (w_put_behind h.lo (a_mem h nc) q)
  · have z2 : ¬ k = KU := fun y => kul (z ▸ y)
    rw [if_neg z2] at q
    exact (if_neg z2).mpr ((if_pos z).mpr (w_put_behind h.up (a_mem2 h nc) q))
theorem w_require_order {Q : _ → Nat → Prop} (q : Q () c) : (m_require_order (o, ())).wp c Q X := by
  simp only [m_require_order, b_require_order, M.none_wp, M.bind_wp, M.ret_wp, M.need_wp, M.the_wp, M.ifb_wp, M.anyOf_wp, M.still_wp, M.roll_wp, M.pick_wp, M.thn_wp, M.thn_nx, M.thn_rt, M.thn_bk, M.thn_ct, M.fin_wp, M.fin_rt, M.finN_wp, M.finN_rt, M.finN_nx, M.FK_nx, M.FK_ct, M.FK_bk, M.FK_rt, decide_eq_true_eq, if_true, if_false, Bool.false_eq_true, Bool.not_eq_true', decide_eq_false_iff_not, Bool.not_true, Bool.not_false, ite_not]
  exact (if_neg (by simp)).mpr q
theorem whileM_inv {Γ Δ β : Type} {t : Γ → M Bool} {f : Γ → M (Ct Γ Γ β)} {Q : Ct Γ Δ β → Nat → Prop} (I : Nat → Γ → Nat → Prop) {m : Nat} {ρ : Γ} (h0 : I m ρ c)
    (hs : ∀ m ρ d, I m ρ d → (t ρ).wp d (fun b e => if b = true then (f ρ).wp e (fun k e => M.FK (fun ρ' e => ∃ m', m' < m ∧ I m' ρ' e) Q k e) X else Q (.nx ρ) e) X) : (M.whileM (Δ := Δ) t f ρ).wp c Q X := by
  refine ⟨m + 1, ?_⟩
  have gen : ∀ (N m : Nat) (ρ : Γ) (d : Nat), m < N → I m ρ d → (M.whileN (Δ := Δ) t f N ρ).wp d Q X := by
    intro N
    induction N with
    | zero => intro m ρ d h; exact absurd h (Nat.not_lt_zero _)
    | succ N ih =>
      intro m ρ d h hI
      show (t ρ).wp d (fun b e => (M.ifb b ((f ρ).bind (M.forK fun ρ' => M.whileN (Δ := Δ) t f N ρ')) (.ret (.nx ρ))).wp e Q X) X
      refine M.wk (hs m ρ d hI) fun b e z => ?_
      cases b with
      | false => exact z
      | true =>
        show (f ρ).wp e (fun k e => (M.forK (fun ρ' => M.whileN (Δ := Δ) t f N ρ') k).wp e Q X) X
        refine M.wk z fun k e z => ?_
        cases k with
        | nx ρ' => obtain ⟨m', hm, z⟩ := z; exact ih m' ρ' e (by omega) z
        | ct ρ' => obtain ⟨m', hm, z⟩ := z; exact ih m' ρ' e (by omega) z
        | bk ρ' => exact z
        | rt b => exact z
  exact gen (m + 1) m ρ c (Nat.lt_succ_self m) h0
theorem M.forK_nx {Γ Δ β : Type} {f : Γ → M (Ct Γ Δ β)} {ρ : Γ} : M.forK f (.nx ρ) = f ρ := id rfl
theorem kput_len {ks : List Str} (h : ks.Nodup) (hs : ∀ x ∈ ks, x ∈ o.up) {x : Str} (hx : x ∈ o.up) : (kput ks x).Nodup ∧ ∀ y ∈ kput ks x, y ∈ o.up :=
  ⟨kput_nd h x, fun y hy => (kput_mem.mp hy).elim (hs y) fun e => e ▸ hx⟩
theorem dput_ks {ks : List Str} (h : ks.Nodup) (x : Str) : dput (dmerge [] (ks.map fun k => (k, true))) x true = (kput ks x).map fun k => (k, true) := by
  rw [dmerge_nodup]
  · rw [List.nil_append]; exact dput_k ks x
  · rw [List.nil_append, List.map_map]
    show (ks.map fun k => k).Nodup
    rw [List.map_id']; exact h
end
end PF2

set_option Elab.async false
set_option linter.all false
set_option maxRecDepth 100000
set_option maxHeartbeats 400000
set_option exponentiation.threshold 20000
namespace PF2
open PF PySem PySem.Spec PyProof.Rows L2 SlX TL
section
variable {c : Nat} {X : Er → Prop} {o : Od}
theorem rng_get {lo hi a : Int} {i : Nat} (h : (rng lo hi)[i]? = some a) : a = lo + i ∧ i < (hi - lo).toNat := by
  rw [rng_eq, List.getElem?_map] at h
  have hi' : i < (hi - lo).toNat := by
    obtain ⟨q, _⟩ := List.getElem?_eq_some_iff.mp (Option.map_eq_some_iff.mp h).choose_spec.1
    rwa [List.length_range] at q
  rw [List.getElem?_range hi'] at h
  cases h
  exact ⟨rfl, hi'⟩
def TEN : List Str := ["a", "b", "c", "d", "e", "x", "aa", "ab", "zz", "zzzzzzzz"]
def nameB (x : Str) : Bool := decide (1 ≤ x.length) && decide (x.length ≤ 8) && (PF.signs x).all (fun s => inStr s LET) && PyData.strOk x
theorem nameB_ok {x : Str} (h : nameB x = true) : okName x := by
  unfold nameB at h
  simp only [Bool.and_eq_true, decide_eq_true_eq, List.all_eq_true] at h
  exact ⟨h.1.1.1, h.1.1.2, h.1.2, h.2⟩
theorem ten_ok : ∀ x ∈ TEN, okName x := fun x hx => nameB_ok (List.all_eq_true.mp (show TEN.all nameB = true by decide +kernel) x hx)
theorem ten_nd : TEN.Nodup := by decide +kernel
theorem er_perm {α : Type} : ∀ {l : List α} {k : Nat} (h : k < l.length), (l[k] :: l.eraseIdx k).Perm l
  | x :: l, 0, _ => by simp
  | x :: l, k + 1, h => by
    have ih := er_perm (l := l) (k := k) (by simpa using h)
    rw [List.eraseIdx_cons_succ, List.getElem_cons_succ]
    exact (List.Perm.swap ..).trans (ih.cons x)
theorem w_mixed {xs : List Str} {Q : List Str → Nat → Prop} (hc : c < 10000) (hl : xs.length ≤ 40) (q : ∀ ys d, ys.Perm xs → d ≤ c + 40 → Q ys d) : (m__law_mixed (xs, ())).wp c Q X := by
  simp only [m__law_mixed, b__law_mixed, M.none_wp, M.bind_wp, M.ret_wp, M.need_wp, M.the_wp, M.ifb_wp, M.anyOf_wp, M.still_wp, M.roll_wp, M.pick_wp, M.thn_wp, M.thn_nx, M.thn_rt, M.thn_bk, M.thn_ct, M.fin_wp, M.fin_rt, M.finN_wp, M.finN_rt, M.finN_nx, M.FK_nx, M.FK_ct, M.FK_bk, M.FK_rt, decide_eq_true_eq, if_true, if_false, Bool.false_eq_true, Bool.not_eq_true', decide_eq_false_iff_not, Bool.not_true, Bool.not_false, ite_not]
  refine ⟨⟨by omega, by omega⟩, ?_⟩
  refine M.forM_inv (fun i ρ d => d ≤ c + i ∧ (ρ.2.2.1 ++ ρ.2.2.2.1).Perm xs ∧ ρ.2.2.1.length + i = xs.length ∧ ρ.2.2.2.1.length = i) ⟨Nat.le_refl _, by rw [List.append_nil], rfl, rfl⟩ ?_ ?_
  · rintro i a ⟨_, _, left, found, _, _⟩ d hi ⟨h1, h2, h3, h4⟩
    obtain ⟨_, hi⟩ := rng_get hi
    have hi' : i < xs.length := by omega
    dsimp only at h2 h3 h4
    simp only [M.none_wp, M.bind_wp, M.ret_wp, M.need_wp, M.the_wp, M.ifb_wp, M.anyOf_wp, M.still_wp, M.roll_wp, M.pick_wp, M.thn_wp, M.thn_nx, M.thn_rt, M.thn_bk, M.thn_ct, M.fin_wp, M.fin_rt, M.finN_wp, M.finN_rt, M.finN_nx, M.FK_nx, M.FK_ct, M.FK_bk, M.FK_rt, decide_eq_true_eq, if_true, if_false, Bool.false_eq_true, Bool.not_eq_true', decide_eq_false_iff_not, Bool.not_true, Bool.not_false, ite_not]
    refine ⟨by omega, by omega, bd_sm (by omega) (by omega), fun r r0 r1 => ⟨⟨by omega, r0⟩, ?_⟩⟩
    have hr : r.toNat < left.length := by omega
    refine ⟨_, List.getElem?_eq_getElem hr, sizeLt (by omega), by omega, ?_, ?_, by simp only [List.length_append, List.length_singleton]; omega⟩
    · have p := er_perm hr
      have p2 : (left.eraseIdx r.toNat ++ (found ++ [left[r.toNat]])).Perm (left[r.toNat] :: (left.eraseIdx r.toNat ++ found)) := by
        rw [← List.append_assoc]
        exact List.perm_append_singleton _ _
      exact p2.trans ((List.Perm.append_right found p).trans h2)
    · show (left.eraseIdx r.toNat).length + (i + 1) = xs.length
      rw [List.length_eraseIdx, if_pos hr]; omega
  · rintro ⟨_, _, left, found, _, _⟩ d ⟨h1, h2, h3, h4⟩
    rw [rng_len] at h1 h3 h4
    simp only [M.none_wp, M.bind_wp, M.ret_wp, M.need_wp, M.the_wp, M.ifb_wp, M.anyOf_wp, M.still_wp, M.roll_wp, M.pick_wp, M.thn_wp, M.thn_nx, M.thn_rt, M.thn_bk, M.thn_ct, M.fin_wp, M.fin_rt, M.finN_wp, M.finN_rt, M.finN_nx, M.FK_nx, M.FK_ct, M.FK_bk, M.FK_rt, decide_eq_true_eq, if_true, if_false, Bool.false_eq_true, Bool.not_eq_true', decide_eq_false_iff_not, Bool.not_true, Bool.not_false, ite_not]
    dsimp only at h2 h3 h4
    have : left = [] := List.length_eq_zero_iff.mp (by omega)
    rw [this, List.nil_append] at h2
    exact q found d h2 (by omega)
structure okN (l : List Str) : Prop where
  n1 : 1 ≤ l.length
  n8 : l.length ≤ 8
  nd : l.Nodup
  tn : ∀ x ∈ l, x ∈ TEN
theorem okN.row {l : List Str} (h : okN l) : okRow l := ⟨h.n1, by have := h.n8; omega, fun x hx => ten_ok x (h.tn x hx), h.nd⟩
theorem w_names_drawn {n : Int} {Q : List Str → Nat → Prop} (hc : c < 9000) (n1 : 1 ≤ n) (n8 : n ≤ 8) (q : ∀ ys d, okN ys → ys.length = n.toNat → d ≤ c + 40 → Q ys d) : (m__law_names_drawn (n, ())).wp c Q X := by
  simp only [m__law_names_drawn, b__law_names_drawn, M.none_wp, M.bind_wp, M.ret_wp, M.need_wp, M.the_wp, M.ifb_wp, M.anyOf_wp, M.still_wp, M.roll_wp, M.pick_wp, M.thn_wp, M.thn_nx, M.thn_rt, M.thn_bk, M.thn_ct, M.fin_wp, M.fin_rt, M.finN_wp, M.finN_rt, M.finN_nx, M.FK_nx, M.FK_ct, M.FK_bk, M.FK_rt, decide_eq_true_eq, if_true, if_false, Bool.false_eq_true, Bool.not_eq_true', decide_eq_false_iff_not, Bool.not_true, Bool.not_false, ite_not]
  refine w_mixed (by omega) (by decide) fun ys d p hd => ?_
  have hl : ys.length = 10 := p.length_eq
  have e : cutL ys none (some n) = ys.take n.toNat := by
    have := cutL_mid ys 0 n.toNat (Nat.zero_le _) (by omega)
    rw [List.drop_zero, Int.toNat_of_nonneg (by omega)] at this
    exact this
  rw [e]
  refine q _ _ ⟨by rw [List.length_take]; omega, by rw [List.length_take]; omega, nd_take (p.nodup_iff.mpr ten_nd) _, fun x hx => p.mem_iff.mp (List.mem_of_mem_take hx)⟩ (by rw [List.length_take]; omega) hd
theorem cut_neg {l : List Str} (h : 1 ≤ l.length) : cutL l none (some (-1)) = l.dropLast := by
  have e2 : HT.sIx l.length l.length (some (-1)) = l.length - 1 := by
    unfold HT.sIx
    simp
    omega
  have e1 : HT.sIx l.length 0 none = 0 := rfl
  unfold cutL
  rw [e1, e2, List.drop_zero, Nat.sub_zero, List.dropLast_eq_take]
theorem w_lis_whole {Q : Bool → Nat → Prop} (h : okOrd o) (hN : o.NoCut → Q true c) (hC : ¬ o.NoCut → Q false c) : (m__law_is_whole (o.up, o.lo, ())).wp c Q X := by
  simp only [m__law_is_whole, b__law_is_whole, M.none_wp, M.bind_wp, M.ret_wp, M.need_wp, M.the_wp, M.ifb_wp, M.anyOf_wp, M.still_wp, M.roll_wp, M.pick_wp, M.thn_wp, M.thn_nx, M.thn_rt, M.thn_bk, M.thn_ct, M.fin_wp, M.fin_rt, M.finN_wp, M.finN_rt, M.finN_nx, M.FK_nx, M.FK_ct, M.FK_bk, M.FK_rt, decide_eq_true_eq, if_true, if_false, Bool.false_eq_true, Bool.not_eq_true', decide_eq_false_iff_not, Bool.not_true, Bool.not_false, ite_not]
  have h40 := h.up.n40
  have hl := len_eq h
  refine ⟨⟨by decide, by decide, by omega, by omega⟩, by rw [rng_len]; omega, M.lcM_filter (g := fun k => if o.cutB k.toNat = true then some k else none) (fun k hk Q q => ?_) ?_⟩
  · simp only [M.none_wp, M.bind_wp, M.ret_wp, M.need_wp, M.the_wp, M.ifb_wp, M.anyOf_wp, M.still_wp, M.roll_wp, M.pick_wp, M.thn_wp, M.thn_nx, M.thn_rt, M.thn_bk, M.thn_ct, M.fin_wp, M.fin_rt, M.finN_wp, M.finN_rt, M.finN_nx, M.FK_nx, M.FK_ct, M.FK_bk, M.FK_rt, decide_eq_true_eq, if_true, if_false, Bool.false_eq_true, Bool.not_eq_true', decide_eq_false_iff_not, Bool.not_true, Bool.not_false, ite_not]
    obtain ⟨k1, k2⟩ := rng_mem.mp hk
    have ek : k = ((k.toNat : Nat) : Int) := by omega
    rw [ek, cutL_to o.up k.toNat (by omega), cutL_to o.lo k.toNat (by omega)]
    refine ⟨by rw [List.length_take]; omega, by rw [List.length_take]; omega, ?_⟩
    have ps := piece_set h (s := 0) (e := k.toNat) (Nat.zero_le _) cut_zero
    unfold Od.piece at ps
    rw [List.drop_zero, List.drop_zero] at ps
    rw [ps]
    by_cases z : o.cutB k.toNat = true
    · rw [if_pos z] at q ⊢; rw [← ek]; exact q
    · rw [if_neg z] at q ⊢; exact q
  · by_cases z : 1 < (o.up.length : Int)
    · rw [if_pos z]
      refine ⟨⟨lay_list (lay_ints _), lay_list (lay_ints _)⟩, ?_⟩
      generalize hg : List.filterMap (fun k : Int => if o.cutB k.toNat = true then some k else none) (rng 1 o.up.length) = g
      cases g with
      | nil =>
        simp only [List.map_nil, PyData.eqv, PyData.eqvAll]
        refine hN ⟨by omega, fun i h1 h2 k => ?_⟩
        have hm : (i : Int) ∈ List.filterMap (fun k : Int => if o.cutB k.toNat = true then some k else none) (rng 1 o.up.length) := List.mem_filterMap.mpr ⟨(i : Int), rng_mem.mpr ⟨by omega, by omega⟩, by rw [Int.toNat_natCast, if_pos (show o.cutB i = true from decide_eq_true k)]⟩
        rw [hg] at hm; cases hm
      | cons x g =>
        simp only [List.map_cons, List.map_nil, PyData.eqv, PyData.eqvAll]
        refine hC fun nc => ?_
        have hm : x ∈ List.filterMap (fun k : Int => if o.cutB k.toNat = true then some k else none) (rng 1 o.up.length) := by rw [hg]; exact List.mem_cons_self ..
        obtain ⟨k, hk, e⟩ := List.mem_filterMap.mp hm
        obtain ⟨k1, k2⟩ := rng_mem.mp hk
        by_cases cz : o.cutB k.toNat = true
        · exact nc.2 k.toNat (by omega) (by omega) (of_decide_eq_true cz)
        · rw [if_neg cz] at e; cases e
    · rw [if_neg z]
      exact hC fun nc => by have := nc.1; omega
theorem rev_nc {up : List Str} (nd : up.Nodup) (h2 : 2 ≤ up.length) : Od.NoCut ⟨up, up.reverse⟩ := by
  refine ⟨h2, fun i h1 hi k => ?_⟩
  cases up with
  | nil => simp at h2
  | cons x l =>
    have hi : i < (x :: l).length := hi
    have m : x ∈ (x :: l).take i := by
      rw [show i = (i - 1) + 1 by omega, List.take_succ_cons]; exact List.mem_cons_self ..
    have m2 := k x m
    have m3 : x ∈ ((x :: l).reverse).take i := m2
    rw [List.take_reverse] at m3
    have m4 := List.mem_reverse.mp m3
    rw [show (x :: l).length - i = ((x :: l).length - i - 1) + 1 by omega, List.drop_succ_cons] at m4
    exact (List.nodup_cons.mp nd).1 (List.mem_of_mem_drop m4)
theorem w_rows_drawn {Q : _ → Nat → Prop} {n : Int} (hc : c < 8000) (n2 : 2 ≤ n) (n8 : n ≤ 8) (q : ∀ (o : Od) d, okN o.up → okOrd o → o.NoCut → d ≤ c + 300 → Q (o.up, o.lo, ()) d) : (m__law_rows_drawn (n, ())).wp c Q X := by
  simp only [m__law_rows_drawn, b__law_rows_drawn, M.none_wp, M.bind_wp, M.ret_wp, M.need_wp, M.the_wp, M.ifb_wp, M.anyOf_wp, M.still_wp, M.roll_wp, M.pick_wp, M.thn_wp, M.thn_nx, M.thn_rt, M.thn_bk, M.thn_ct, M.fin_wp, M.fin_rt, M.finN_wp, M.finN_rt, M.finN_nx, M.FK_nx, M.FK_ct, M.FK_bk, M.FK_rt, decide_eq_true_eq, if_true, if_false, Bool.false_eq_true, Bool.not_eq_true', decide_eq_false_iff_not, Bool.not_true, Bool.not_false, ite_not]
  refine w_names_drawn (by omega) (by omega) (by omega) fun up d hN hl hd => ⟨by omega, by decide, bd_sm (by decide) (by decide), fun r _ _ => ?_⟩
  have okk : ∀ low : List Str, low.Perm up → okOrd ⟨up, low⟩ := fun low p => ⟨hN.row, okRow_perm hN.row p, p⟩
  have rv := rev_nc hN.nd (by omega)
  by_cases z : 0 < r
  · refine (if_pos z).mpr ⟨⟨by decide, by decide⟩, ?_⟩
    refine M.forM_inv (fun i ρ d' => d' ≤ d + 1 + i * 40 ∧ ρ.2.2.1 = up ∧ ρ.2.2.2.1.Perm up ∧ Od.NoCut ⟨up, ρ.2.2.2.1⟩) ⟨by omega, rfl, List.reverse_perm _, rv⟩ ?_ ?_
    · rintro i a ρ d' hi ⟨hd', e1, hp, hn⟩
      obtain ⟨_, hi⟩ := rng_get hi
      simp only [M.none_wp, M.bind_wp, M.ret_wp, M.need_wp, M.the_wp, M.ifb_wp, M.anyOf_wp, M.still_wp, M.roll_wp, M.pick_wp, M.thn_wp, M.thn_nx, M.thn_rt, M.thn_bk, M.thn_ct, M.fin_wp, M.fin_rt, M.finN_wp, M.finN_rt, M.finN_nx, M.FK_nx, M.FK_ct, M.FK_bk, M.FK_rt, decide_eq_true_eq, if_true, if_false, Bool.false_eq_true, Bool.not_eq_true', decide_eq_false_iff_not, Bool.not_true, Bool.not_false, ite_not, e1]
      refine w_mixed (by omega) (by have := hN.n8; omega) fun ys d2 py hd2 => ?_
      refine w_lis_whole (o := ⟨up, ys⟩) (okk ys py) (fun hn2 => ?_) (fun _ => ?_)
      · exact (if_pos rfl).mpr ⟨by omega, trivial, py, hn2⟩
      · exact (if_neg (by simp)).mpr ⟨by omega, trivial, hp, hn⟩
    · rintro ρ d' ⟨hd', e1, hp, hn⟩
      rw [rng_len] at hd'
      simp only [M.none_wp, M.bind_wp, M.ret_wp, M.need_wp, M.the_wp, M.ifb_wp, M.anyOf_wp, M.still_wp, M.roll_wp, M.pick_wp, M.thn_wp, M.thn_nx, M.thn_rt, M.thn_bk, M.thn_ct, M.fin_wp, M.fin_rt, M.finN_wp, M.finN_rt, M.finN_nx, M.FK_nx, M.FK_ct, M.FK_bk, M.FK_rt, decide_eq_true_eq, if_true, if_false, Bool.false_eq_true, Bool.not_eq_true', decide_eq_false_iff_not, Bool.not_true, Bool.not_false, ite_not, e1]
      exact q ⟨up, ρ.2.2.2.1⟩ d' hN (okk _ hp) hn (by omega)
  · exact (if_neg z).mpr (q ⟨up, up.reverse⟩ _ hN (okk _ (List.reverse_perm _)) rv (by omega))
theorem drop_get {d : List Str} {i : Nat} {a : Str} (h : d[i]? = some a) : d.drop i = a :: d.drop (i + 1) := by
  obtain ⟨hi, e⟩ := List.getElem?_eq_some_iff.mp h
  rw [List.drop_eq_getElem_cons hi, e]
theorem lay_ks {d : List Str} (h : ∀ x ∈ d, x = KL ∨ x = KU) : ∀ e ∈ d.map PyData.str, e.canLay0 = true := lay_map fun x hx => by
  simp only [PyData.canLay0]
  rcases h x hx with z | z <;> (rw [z]; decide +kernel)
theorem eqv_rows (a b a' b' : List Str) : PyData.eqv (.tuple [.list (a.map PyData.str), .list (b.map PyData.str)]) (.tuple [.list (a'.map PyData.str), .list (b'.map PyData.str)]) = decide ((⟨a, b⟩ : Od) = ⟨a', b'⟩) := by
  simp only [PyData.eqv, PyData.eqvAll, eqvAll_strs, Bool.and_true]
  by_cases h1 : a = a' <;> by_cases h2 : b = b' <;> simp [h1, h2]
theorem lay_rows (h : okOrd o) : (PyData.tuple [.list (o.up.map PyData.str), .list (o.lo.map PyData.str)]).canLay0 = true := lay_tup fun d hd => by
  rcases List.mem_cons.mp hd with z | hd
  · rw [z]; exact lay_list (lay_strs h.up.nm)
  · rw [List.mem_singleton.mp hd]; exact lay_list (lay_strs h.lo.nm)
theorem cut_all (h : okOrd o) : o.cutB o.up.length = true := decide_eq_true fun x hx => by
  rw [← len_eq h, List.take_length]
  exact idx_mem h (List.mem_of_mem_take hx)
theorem ends_nc (h : okOrd o) (nc : o.NoCut) : ∀ (k i : Nat), i + (k + 1) = o.up.length → o.endsF i (k + 1) = [o.up.length]
  | 0, i, e => by
    unfold Od.endsF
    have c := cut_all h
    rw [← e] at c ⊢
    rw [if_pos c]; rfl
  | k + 1, i, e => by
    unfold Od.endsF
    rw [if_neg (show ¬ o.cutB (i + 1) = true from fun z => nc.2 (i + 1) (by omega) (by omega) (of_decide_eq_true z))]
    exact ends_nc h nc k (i + 1) (by omega)
theorem whole_nc (h : okOrd o) (nc : o.NoCut) : o.whole = true := by
  have c1 := nc.1
  unfold Od.whole
  rw [if_pos (by omega), bEnds_eq h, List.length_map]
  have e : o.ends = [o.up.length] := by
    have := ends_nc h nc (o.up.length - 1) 0 (by omega)
    rw [show o.up.length - 1 + 1 = o.up.length by omega] at this
    exact this
  rw [e]; rfl
def rowB (l : List Str) : Bool := decide (1 ≤ l.length) && decide (l.length ≤ 40) && l.all nameB && decide l.Nodup
theorem rowB_ok {l : List Str} (h : rowB l = true) : okRow l := by
  unfold rowB at h
  simp only [Bool.and_eq_true, decide_eq_true_eq, List.all_eq_true] at h
  exact ⟨h.1.1.1, h.1.1.2, fun x hx => nameB_ok (h.1.2 x hx), h.2⟩
theorem ordB_ok {o : Od} (h : (rowB o.up && rowB o.lo && decide (o.lo.Perm o.up)) = true) : okOrd o := by
  simp only [Bool.and_eq_true, decide_eq_true_eq] at h
  exact ⟨rowB_ok h.1.1, rowB_ok h.1.2, h.2⟩
end
end PF2

set_option Elab.async false
set_option linter.all false
set_option maxRecDepth 100000
set_option maxHeartbeats 400000
set_option exponentiation.threshold 20000
namespace PF2
open PF PySem PySem.Spec PyProof.Rows L2 SlX TL
/-! ### places under rounds, no program in sight -/
section
variable {α β : Type} [BEq α] [LawfulBEq α] [BEq β] [LawfulBEq β]
def insG (l : List α) (a b : α) : List α := l.take (l.idxOf a + 1) ++ [b] ++ l.drop (l.idxOf a + 1)
def pl (u l : List α) : List Int := u.map fun x => (l.idxOf x : Int)
theorem idx_mid {A B : List α} {a : α} (h : a ∉ A) : (A ++ a :: B).idxOf a = A.length := by
  rw [List.idxOf_append, if_neg h, List.idxOf_cons_self, Nat.zero_add]
theorem insG_mid {A B : List α} {a b : α} (h : a ∉ A) : insG (A ++ a :: B) a b = A ++ a :: b :: B := by
  unfold insG
  rw [idx_mid h, List.take_append, List.drop_append, List.take_of_length_le (by omega), List.drop_eq_nil_of_le (by omega)]
  rw [show A.length + 1 - A.length = 1 by omega]
  simp
theorem idx_map {f : α → β} {x : α} : ∀ {l : List α}, (∀ y ∈ l, f y = f x → y = x) → (l.map f).idxOf (f x) = l.idxOf x
  | [], _ => rfl
  | y :: l, h => by
    rw [List.map_cons, List.idxOf_cons, List.idxOf_cons, idx_map fun z hz => h z (List.mem_cons_of_mem _ hz)]
    by_cases e : y = x
    · subst e; simp
    · have e2 : ¬ f y = f x := fun z => e (h y (List.mem_cons_self ..) z)
      rw [beq_eq_false_iff_ne.mpr e, beq_eq_false_iff_ne.mpr e2]
theorem insG_map {f : α → β} {l : List α} {a b : α} (h : ∀ y ∈ l, f y = f a → y = a) : (insG l a b).map f = insG (l.map f) (f a) (f b) := by
  unfold insG
  rw [idx_map h, List.map_append, List.map_append, List.map_take, List.map_drop]; rfl
theorem pl_map {f : α → β} {u l : List α} (h : ∀ x ∈ u, ∀ y ∈ l, f y = f x → y = x) : pl (u.map f) (l.map f) = pl u l := by
  unfold pl
  rw [List.map_map]
  refine List.map_congr_left fun x hx => ?_
  show ((List.idxOf (f x) (l.map f) : Nat) : Int) = _
  rw [idx_map (h x hx)]
theorem idx_U {A B : List Str} {a b x : Str} (nd : (A ++ a :: (B ++ [b])).Nodup) (hx : x ∈ A ++ a :: (B ++ [b])) :
    ((A ++ a :: b :: B).idxOf x : Int) = if x = b then (A.length : Int) + 1 else ((A ++ a :: (B ++ [b])).idxOf x : Int) + (if (A.length : Int) < ((A ++ a :: (B ++ [b])).idxOf x : Int) then 1 else 0) := by
  have nd0 := nd
  rw [List.nodup_append, List.nodup_cons, List.nodup_append] at nd
  obtain ⟨nA, ⟨naB, nB, _, nBb⟩, nAB⟩ := nd
  have nb : b ∉ A := fun z => nAB b z b (List.mem_cons_of_mem _ (List.mem_append_right _ (List.mem_singleton.mpr rfl))) rfl
  have na : a ∉ A := fun z => nAB a z a (List.mem_cons_self ..) rfl
  have nab : a ≠ b := fun z => naB (List.mem_append_right _ (List.mem_singleton.mpr z))
  by_cases h1 : x = b
  · subst h1
    rw [if_pos rfl, List.idxOf_append, if_neg nb, List.idxOf_cons, beq_eq_false_iff_ne.mpr nab, List.idxOf_cons_self]
    show ((0 + 1 + A.length : Nat) : Int) = _
    omega
  rw [if_neg h1]
  by_cases h2 : x ∈ A
  · have := List.idxOf_lt_length_iff.mpr h2
    rw [List.idxOf_append, if_pos h2, List.idxOf_append, if_pos h2, if_neg (by omega)]; omega
  by_cases h3 : x = a
  · subst h3
    rw [idx_mid h2, idx_mid h2, if_neg (by omega)]; omega
  have h4 : x ∈ B := by
    rcases List.mem_append.mp hx with z | z
    · exact absurd z h2
    rcases List.mem_cons.mp z with z | z
    · exact absurd z h3
    rcases List.mem_append.mp z with z | z
    · exact z
    · exact absurd (List.mem_singleton.mp z) h1
  have e3 : (a == x) = false := beq_eq_false_iff_ne.mpr fun z => h3 z.symm
  have e1 : (b == x) = false := beq_eq_false_iff_ne.mpr fun z => h1 z.symm
  rw [List.idxOf_append, if_neg h2, List.idxOf_cons, e3, List.idxOf_cons, e1, List.idxOf_append (l₁ := A), if_neg h2, List.idxOf_cons, e3, List.idxOf_append, if_pos h4]
  show ((B.idxOf x + 1 + 1 + A.length : Nat) : Int) = ((B.idxOf x + 1 + A.length : Nat) : Int) + (if (A.length : Int) < ((B.idxOf x + 1 + A.length : Nat) : Int) then 1 else 0)
  rw [if_pos (by omega)]; omega
end
/-- an order, laid open -/
structure Spl (o : Od) (A B C D : List Str) (a b : Str) : Prop where
  up : o.up = C ++ b :: (D ++ [a])
  lo : o.lo = A ++ a :: (B ++ [b])
  nu : o.up.Nodup
  nl : o.lo.Nodup
  pm : o.lo.Perm o.up
theorem lst_app (l : List Str) (a : Str) : lst (l ++ [a]) = a := by simp [lst]
section
variable {o : Od} {A B C D : List Str} {a b : Str}
theorem spl (h : okOrd o) (nc : o.NoCut) : ∃ A B C D a b, Spl o A B C D a b := by
  have c1 := nc.1
  have e1 := lst_eq (l := o.up) (by omega)
  have e2 := lst_eq (l := o.lo) (by rw [len_eq h]; omega)
  obtain ⟨A, B, e3⟩ := List.append_of_mem (a_mem h nc)
  obtain ⟨C, D, e4⟩ := List.append_of_mem (a_mem (inv_ok h) (ncut_inv h nc))
  refine ⟨A, B, C, D, lst o.up, lst o.lo, ?_, ?_, h.up.nd, h.lo.nd, h.pm⟩
  · have e5 : o.up.dropLast = C ++ lst o.lo :: D := e4
    rw [e1, e5, lst_app]
    simp
  · have e5 : o.lo.dropLast = A ++ lst o.up :: B := e3
    rw [e2, e5, lst_app]
    simp
theorem Spl.inv (s : Spl o A B C D a b) : Spl o.inv C D A B b a := ⟨s.lo, s.up, s.nl, s.nu, s.pm.symm⟩
theorem Spl.naA (s : Spl o A B C D a b) : a ∉ A := fun z => by
  have nd := s.nl
  rw [s.lo, List.nodup_append] at nd
  exact nd.2.2 a z a (List.mem_cons_self ..) rfl
theorem Spl.nbC (s : Spl o A B C D a b) : b ∉ C := s.inv.naA
theorem Spl.lu (s : Spl o A B C D a b) : lst o.up = a := by
  rw [s.up, show C ++ b :: (D ++ [a]) = (C ++ b :: D) ++ [a] by simp]; exact lst_app _ _
theorem Spl.ll (s : Spl o A B C D a b) : lst o.lo = b := s.inv.lu
theorem Spl.dl (s : Spl o A B C D a b) : o.lo.dropLast = A ++ a :: B := by
  rw [s.lo, show A ++ a :: (B ++ [b]) = (A ++ a :: B) ++ [b] by simp, List.dropLast_concat]
theorem ins_mid {A B : List Str} {a b : Str} (h : a ∉ A) : ins (A ++ a :: B) a b = A ++ a :: b :: B := insG_mid h
theorem Spl.stU (s : Spl o A B C D a b) : o.stU = ⟨o.up, A ++ a :: b :: B⟩ := by
  unfold Od.stU
  rw [s.dl, s.lu, s.ll, ins_mid s.naA]
theorem Spl.stL (s : Spl o A B C D a b) : o.stL = ⟨C ++ b :: a :: D, o.lo⟩ := by
  rw [stL_inv, s.inv.stU]; rfl
/-- the places, laid open -/
structure Pls (p pc pd : List Int) (N last : Int) : Prop where
  eq : p = pc ++ N :: (pd ++ [last])
  nN : N ∉ pc
  len : (p.length : Int) = N + 1
  l0 : 0 ≤ last
  lN : last < N
def bump (last x : Int) : Int := x + (if last < x then 1 else 0)
def nxP (pc pd : List Int) (N last : Int) (k : Str) : List Int := if k = KL then pc ++ N :: last :: pd else pc.map (bump last) ++ (last + 1) :: (pd ++ [last]).map (bump last)
theorem Spl.mem (s : Spl o A B C D a b) {x : Str} : x ∈ o.up ↔ x ∈ o.lo := (s.pm.mem_iff (a := x)).symm
theorem Spl.pls (s : Spl o A B C D a b) : Pls o.plc (pl C o.lo) (pl D o.lo) (A.length + B.length + 1 : Nat) A.length := by
  have il : o.lo.idxOf a = A.length := by rw [s.lo]; exact idx_mid s.naA
  have nb : b ∉ A ++ a :: B := fun z => by
    have nd := s.nl
    rw [s.lo, show A ++ a :: (B ++ [b]) = (A ++ a :: B) ++ [b] by simp, List.nodup_append] at nd
    exact nd.2.2 b z b (List.mem_singleton.mpr rfl) rfl
  have ib : o.lo.idxOf b = A.length + B.length + 1 := by
    rw [s.lo, show A ++ a :: (B ++ [b]) = (A ++ a :: B) ++ [b] by simp, idx_mid nb]
    simp; omega
  have ll : o.lo.length = o.up.length := s.pm.length_eq
  refine ⟨?_, fun z => ?_, ?_, by omega, by omega⟩
  · unfold Od.plc pl
    rw [s.up, List.map_append, List.map_cons, List.map_append, ← ib, ← il]
    rfl
  · obtain ⟨x, hx, ex⟩ := List.mem_map.mp z
    have ex : o.lo.idxOf x = A.length + B.length + 1 := by omega
    have hm : x ∈ o.lo := s.mem.mp (by rw [s.up]; exact List.mem_append_left _ hx)
    have e1 := idx_get hm
    have e2 := idx_get (l := o.lo) (x := b) (by rw [s.lo]; simp)
    rw [ex] at e1
    rw [ib, e1] at e2
    cases e2
    exact s.nbC hx
  · have : o.plc.length = o.up.length := List.length_map ..
    rw [this, ← ll, s.lo]
    simp; omega
theorem Spl.plc_st (s : Spl o A B C D a b) {k : Str} (hk : k = KU ∨ k = KL) : (o.stK k).plc = nxP (pl C o.lo) (pl D o.lo) (A.length + B.length + 1 : Nat) A.length k := by
  have P := s.pls
  have il : o.lo.idxOf a = A.length := by rw [s.lo]; exact idx_mid s.naA
  have ee : o.plc = pl C o.lo ++ ((A.length + B.length + 1 : Nat) : Int) :: (pl D o.lo ++ [(A.length : Int)]) := P.eq
  unfold nxP Od.stK
  rcases hk with z | z
  · rw [if_pos z, if_neg (fun y => kul (y.symm.trans z)), s.stU]
    have nd := s.nl
    rw [s.lo] at nd
    have key : ∀ x ∈ o.up, x ≠ b → ((A ++ a :: b :: B).idxOf x : Int) = bump A.length (o.lo.idxOf x : Int) := fun x hx nx => by
      have hm := s.mem.mp hx
      rw [s.lo] at hm
      rw [idx_U nd hm, if_neg nx, ← s.lo]; rfl
    have kb : ((A ++ a :: b :: B).idxOf b : Int) = (A.length : Int) + 1 := by
      rw [idx_U nd (by simp), if_pos rfl]
    have ndu := s.nu
    rw [s.up, List.nodup_append, List.nodup_cons] at ndu
    show (o.up.map fun x => ((A ++ a :: b :: B).idxOf x : Int)) = _
    rw [s.up, List.map_append, List.map_cons, kb]
    unfold pl
    rw [List.map_append, List.map_append, List.map_map, List.map_map]
    congr 1
    · refine List.map_congr_left fun x hx => key x (by rw [s.up]; exact List.mem_append_left _ hx) fun y => s.nbC (y ▸ hx)
    · congr 1
      congr 1
      · refine List.map_congr_left fun x hx => key x (by rw [s.up]; simp [hx]) fun y => ndu.2.1.1 (List.mem_append_left _ (y ▸ hx))
      · show [((A ++ a :: b :: B).idxOf a : Int)] = [bump A.length A.length]
        rw [key a (by rw [s.up]; simp) (fun y => ndu.2.1.1 (List.mem_append_right _ (List.mem_singleton.mpr y.symm))), il]
  · rw [if_neg (fun y => kul (z.symm.trans y)), if_pos z, s.stL]
    show ((C ++ b :: a :: D).map fun x => (o.lo.idxOf x : Int)) = _
    have eb : (o.lo.idxOf b : Int) = ((A.length + B.length + 1 : Nat) : Int) := by
      have e2 : o.plc = (C.map fun x => (o.lo.idxOf x : Int)) ++ (o.lo.idxOf b : Int) :: ((D.map fun x => (o.lo.idxOf x : Int)) ++ [(o.lo.idxOf a : Int)]) := by
        unfold Od.plc; rw [s.up, List.map_append, List.map_cons, List.map_append]; rfl
      rw [e2] at ee
      exact (List.cons.inj (List.append_cancel_left (show _ ++ _ = pl C o.lo ++ _ from ee))).1
    rw [List.map_append, List.map_cons, List.map_cons, il, eb]
    rfl
/-- a kind, done so often -/
def Od.it (o : Od) (k : Str) : Nat → Od
  | 0 => o
  | j + 1 => (Od.it o k j).stK k
theorem stU_gen {o : Od} {A S : List Str} {a z : Str} (h : lst o.up = a) (e : o.lo = A ++ a :: (S ++ [z])) (na : a ∉ A) : o.stU = ⟨o.up, A ++ a :: z :: S⟩ := by
  unfold Od.stU
  have e1 : o.lo = (A ++ a :: S) ++ [z] := by rw [e]; simp
  have e2 : o.lo.dropLast = A ++ a :: S := by rw [e1, List.dropLast_concat]
  have e3 : lst o.lo = z := by rw [e1]; exact lst_app _ _
  rw [e2, h, e3, ins_mid na]
theorem it_U {o : Od} {A R : List Str} {a : Str} (h : lst o.up = a) (e : o.lo = A ++ a :: R) (na : a ∉ A) : ∀ j, j ≤ R.length → o.it KU j = ⟨o.up, A ++ a :: (R.drop (R.length - j) ++ R.take (R.length - j))⟩
  | 0, _ => by
    show o = _
    rw [Nat.sub_zero, List.drop_length, List.take_length, List.nil_append, ← e]
  | j + 1, hj => by
    show (o.it KU j).stK KU = _
    rw [it_U h e na j (by omega)]
    obtain ⟨i, hi⟩ : ∃ i, R.length - j = i + 1 := ⟨R.length - j - 1, by omega⟩
    have hi2 : R.length - (j + 1) = i := by omega
    have il : i < R.length := by omega
    rw [hi, hi2]
    have e1 : R.take (i + 1) = R.take i ++ [R[i]] := take_next il
    have e2 : R.drop i = R[i] :: R.drop (i + 1) := List.drop_eq_getElem_cons il
    rw [show (⟨o.up, A ++ a :: (R.drop (i + 1) ++ R.take (i + 1))⟩ : Od).stK KU = (⟨o.up, A ++ a :: (R.drop (i + 1) ++ R.take (i + 1))⟩ : Od).stU from if_pos rfl]
    rw [stU_gen (o := ⟨o.up, A ++ a :: (R.drop (i + 1) ++ R.take (i + 1))⟩) (A := A) (S := R.drop (i + 1) ++ R.take i) (a := a) (z := R[i]) h (by show A ++ _ = _; rw [e1, List.append_assoc]) na, e2, List.cons_append]
theorem it_U_eq {o : Od} {A R : List Str} {a : Str} (h : lst o.up = a) (e : o.lo = A ++ a :: R) (na : a ∉ A) (nd : R.Nodup) {j : Nat} (j1 : 1 ≤ j) (hj : j ≤ R.length) : o.it KU j = o ↔ j = R.length := by
  rw [it_U h e na j hj]
  refine ⟨fun z => ?_, fun z => ?_⟩
  · have z2 : A ++ a :: (R.drop (R.length - j) ++ R.take (R.length - j)) = A ++ a :: R := by
      rw [← e]; exact congrArg Od.lo z
    have z3 := (List.cons.inj (List.append_cancel_left z2)).2
    by_cases q : j = R.length
    · exact q
    have l0 : R.length - j < R.length := by omega
    have g : (R.drop (R.length - j) ++ R.take (R.length - j))[0]? = R[R.length - j]? := by
      rw [List.getElem?_append_left (by rw [List.length_drop]; omega), List.getElem?_drop, Nat.add_zero]
    rw [z3] at g
    have := (List.getElem?_inj (i := 0) (j := R.length - j) (by omega) nd).mp g.symm.symm
    omega
  · rw [z, Nat.sub_self, List.drop_zero, List.take_zero, List.append_nil, ← e]
theorem it_inv (o : Od) : ∀ j, o.it KL j = (o.inv.it KU j).inv
  | 0 => rfl
  | j + 1 => by
    show (o.it KL j).stK KL = ((o.inv.it KU j).stK KU).inv
    rw [it_inv o j]
    show (if KL = KU then _ else _) = _
    rw [if_neg kul]
    show _ = ((if KU = KU then _ else _ : Od)).inv
    rw [if_pos rfl, stL_inv]; rfl
theorem Rch.it (r : Rch o o) (k : Str) : ∀ j, Rch o (o.it k j)
  | 0 => r
  | j + 1 => (Rch.it r k j).K k
/-- as many rounds as there are names behind the winner -/
def Od.tms (o : Od) (k : Str) : Nat := if k = KU then o.up.length - 1 - o.lo.idxOf (lst o.up) else o.up.length - 1 - o.up.idxOf (lst o.lo)
theorem Spl.it_eq (s : Spl o A B C D a b) {j : Nat} (j1 : 1 ≤ j) (hj : j ≤ B.length + 1) : o.it KU j = o ↔ j = B.length + 1 := by
  have nd := s.nl
  rw [s.lo, List.nodup_append, List.nodup_cons] at nd
  have := it_U_eq s.lu s.lo s.naA nd.2.1.2 j1 (by rw [List.length_append]; exact hj)
  rw [List.length_append] at this
  exact this
end
end PF2

set_option Elab.async false
set_option linter.all false
set_option maxRecDepth 100000
set_option maxHeartbeats 400000
set_option exponentiation.threshold 20000
namespace PF2
open PF PySem PySem.Spec PyProof.Rows L2 SlX TL
theorem nd_map {α β : Type} {f : α → β} : ∀ {l : List α}, (∀ x ∈ l, ∀ y ∈ l, f x = f y → x = y) → l.Nodup → (l.map f).Nodup
  | [], _, _ => List.nodup_nil
  | a :: l, h, nd => by
    rw [List.nodup_cons] at nd
    rw [List.map_cons, List.nodup_cons]
    refine ⟨fun z => ?_, nd_map (fun x hx y hy => h x (List.mem_cons_of_mem _ hx) y (List.mem_cons_of_mem _ hy)) nd.2⟩
    obtain ⟨y, hy, ey⟩ := List.mem_map.mp z
    exact nd.1 (h y (List.mem_cons_of_mem _ hy) a (List.mem_cons_self ..) ey ▸ hy)
theorem eqvAll_ints : ∀ xs ys : List Int, PyData.eqvAll (xs.map PyData.int) (ys.map PyData.int) = decide (xs = ys)
  | [], [] => by simp only [List.map_nil, PyData.eqvAll, decide_true]
  | [], y :: ys => by simp only [List.map_nil, List.map_cons, PyData.eqvAll]; exact (decide_eq_false (by simp)).symm
  | x :: xs, [] => by simp only [List.map_nil, List.map_cons, PyData.eqvAll]; exact (decide_eq_false (by simp)).symm
  | x :: xs, y :: ys => by
    simp only [List.map_cons, PyData.eqvAll, PyData.eqv, eqvAll_ints xs ys, List.cons.injEq]
    by_cases h : x = y
    · subst h; simp
    · simp [h]
theorem eqv_ints (xs ys : List Int) : PyData.eqv (.tuple (xs.map PyData.int)) (.tuple (ys.map PyData.int)) = decide (xs = ys) := by simp only [PyData.eqv]; exact eqvAll_ints xs ys
theorem eqv_intl (xs ys : List Int) : PyData.eqv (.list (xs.map PyData.int)) (.list (ys.map PyData.int)) = decide (xs = ys) := by simp only [PyData.eqv]; exact eqvAll_ints xs ys
theorem lay_intT (xs : List Int) : (PyData.tuple (xs.map PyData.int)).canLay0 = true := lay_tup (lay_map fun a _ => lay_int a)
theorem lay_intL (xs : List Int) : (PyData.list (xs.map PyData.int)).canLay0 = true := lay_list (lay_map fun a _ => lay_int a)
theorem rng_nd (n : Nat) : (rng 0 n).Nodup := by
  rw [rng_eq]
  exact nd_map (fun x _ y _ e => by omega) List.nodup_range
theorem rng_sorted (n : Nat) : (rng 0 n).Pairwise (· ≤ ·) := by
  rw [rng_eq, List.pairwise_map]
  refine List.Pairwise.imp (R := (· < ·)) (fun h => by omega) List.pairwise_lt_range
section
variable {c : Nat} {X : Er → Prop} {o : Od}
theorem plc_len (o : Od) : o.plc.length = o.up.length := List.length_map ..
theorem plc_perm (h : okOrd o) : o.plc.Perm (rng 0 o.up.length) := by
  refine perm_sub (nd_map (fun x hx y hy e => ?_) h.up.nd) (fun x hx => ?_) ?_
  · have e : o.lo.idxOf x = o.lo.idxOf y := by omega
    have e1 := idx_get (idx_mem h hx)
    have e2 := idx_get (idx_mem h hy)
    rw [e, e2] at e1
    cases e1; rfl
  · obtain ⟨y, hy, rfl⟩ := List.mem_map.mp hx
    have := List.idxOf_lt_length_iff.mpr (idx_mem h hy)
    rw [len_eq h] at this
    exact rng_mem.mpr ⟨by omega, by omega⟩
  · rw [rng_len, plc_len]; omega
theorem sorted_is {n : Nat} {b : List Int} (p : b.Perm (rng 0 n)) (s : b.Pairwise (· ≤ ·)) : b = rng 0 n :=
  List.Perm.eq_of_pairwise (fun a b _ _ h1 h2 => Int.le_antisymm h1 h2) s (rng_sorted n) p
theorem w_isw {i : Int} {Q : Bool → Nat → Prop} (q : Q true c) : (m_is_whole (i, ())).wp c Q X := by
  simp only [m_is_whole, b_is_whole, M.none_wp, M.bind_wp, M.ret_wp, M.need_wp, M.the_wp, M.ifb_wp, M.anyOf_wp, M.still_wp, M.roll_wp, M.pick_wp, M.thn_wp, M.thn_nx, M.thn_rt, M.thn_bk, M.thn_ct, M.fin_wp, M.fin_rt, M.finN_wp, M.finN_rt, M.finN_nx, M.FK_nx, M.FK_ct, M.FK_bk, M.FK_rt, decide_eq_true_eq, if_true, if_false, Bool.false_eq_true, Bool.not_eq_true', decide_eq_false_iff_not, Bool.not_true, Bool.not_false, ite_not]
  exact q
theorem w_are_places {Q : Bool → Nat → Prop} (h : okOrd o) (nc : o.NoCut) (q : Q true c) : (m_are_places (o.plc, 40, ())).wp c Q X := by
  simp only [m_are_places, b_are_places, M.none_wp, M.bind_wp, M.ret_wp, M.need_wp, M.the_wp, M.ifb_wp, M.anyOf_wp, M.still_wp, M.roll_wp, M.pick_wp, M.thn_wp, M.thn_nx, M.thn_rt, M.thn_bk, M.thn_ct, M.fin_wp, M.fin_rt, M.finN_wp, M.finN_rt, M.finN_nx, M.FK_nx, M.FK_ct, M.FK_bk, M.FK_rt, decide_eq_true_eq, if_true, if_false, Bool.false_eq_true, Bool.not_eq_true', decide_eq_false_iff_not, Bool.not_true, Bool.not_false, ite_not]
  have h40 := h.up.n40
  have n2 := nc.1
  have pn := plc_perm h
  have hl := len_eq h
  rw [plc_len, if_neg (by simp), if_pos (by omega), if_pos (by omega)]
  refine ⟨by omega, M.lcM_map (g := fun _ => true) (fun a ha Q q => ?_) ?_⟩
  · simp only [M.none_wp, M.bind_wp, M.ret_wp, M.need_wp, M.the_wp, M.ifb_wp, M.anyOf_wp, M.still_wp, M.roll_wp, M.pick_wp, M.thn_wp, M.thn_nx, M.thn_rt, M.thn_bk, M.thn_ct, M.fin_wp, M.fin_rt, M.finN_wp, M.finN_rt, M.finN_nx, M.FK_nx, M.FK_ct, M.FK_bk, M.FK_rt, decide_eq_true_eq, if_true, if_false, Bool.false_eq_true, Bool.not_eq_true', decide_eq_false_iff_not, Bool.not_true, Bool.not_false, ite_not]
    exact w_isw q
  rw [all_map_true fun _ _ => rfl, if_neg (by simp)]
  refine ⟨by omega, fun b ⟨b1, b2⟩ => ⟨by omega, ⟨lay_intL _, lay_intL _⟩, ?_⟩⟩
  rw [eqv_intl, sorted_is (b1.trans pn) b2, decide_eq_true rfl, if_neg (by simp)]
  refine ⟨by omega, by rw [rng_len]; omega, M.lcM_map (g := fun _ => true) (fun a ha Q q => ?_) ?_⟩
  · obtain ⟨r1, r2⟩ := rng_mem.mp ha
    simp only [M.none_wp, M.bind_wp, M.ret_wp, M.need_wp, M.the_wp, M.ifb_wp, M.anyOf_wp, M.still_wp, M.roll_wp, M.pick_wp, M.thn_wp, M.thn_nx, M.thn_rt, M.thn_bk, M.thn_ct, M.fin_wp, M.fin_rt, M.finN_wp, M.finN_rt, M.finN_nx, M.FK_nx, M.FK_ct, M.FK_bk, M.FK_rt, decide_eq_true_eq, if_true, if_false, Bool.false_eq_true, Bool.not_eq_true', decide_eq_false_iff_not, Bool.not_true, Bool.not_false, ite_not]
    obtain ⟨m, rfl⟩ : ∃ m : Nat, a = (m : Int) := ⟨a.toNat, by omega⟩
    rw [cutL_to _ _ (by rw [plc_len]; omega)]
    refine ⟨by rw [List.length_take, plc_len]; omega, fun y ⟨y1, y2⟩ => ?_⟩
    have : (m : Int) ≤ y := by
      refine Classical.byContradiction fun z => nc.2 m (by omega) (by omega) fun x hx => ?_
      have hp : (o.lo.idxOf x : Int) ∈ o.plc.take m := by
        unfold Od.plc
        rw [← List.map_take]
        exact List.mem_map.mpr ⟨x, hx, rfl⟩
      have := y2 _ hp
      exact idx_take.mpr ⟨idx_mem h (List.mem_of_mem_take hx), by omega⟩
    rw [decide_eq_true this]; exact q
  · rw [all_map_true fun _ _ => rfl]; exact q
theorem w_is_walked {k : Str} {Q : Bool → Nat → Prop} (hk : k = KU ∨ k = KL) (q : Q true c) : (m_is_walked (k, ())).wp c Q X := by
  simp only [m_is_walked, b_is_walked, M.none_wp, M.bind_wp, M.ret_wp, M.need_wp, M.the_wp, M.ifb_wp, M.anyOf_wp, M.still_wp, M.roll_wp, M.pick_wp, M.thn_wp, M.thn_nx, M.thn_rt, M.thn_bk, M.thn_ct, M.fin_wp, M.fin_rt, M.finN_wp, M.finN_rt, M.finN_nx, M.FK_nx, M.FK_ct, M.FK_bk, M.FK_rt, decide_eq_true_eq, if_true, if_false, Bool.false_eq_true, Bool.not_eq_true', decide_eq_false_iff_not, Bool.not_true, Bool.not_false, ite_not]
  refine cast (congrArg (fun b => Q b c) (decide_eq_true ?_).symm) q
  rcases hk with z | z
  · rw [z]; exact List.mem_cons_self ..
  · rw [z]; exact List.mem_cons_of_mem _ (List.mem_cons_self ..)
theorem enum0_map {α β : Type} (xs : List α) (g : Int × α × Unit → β) : (enum0 xs).map g = xs.mapIdx fun i x => g ((i : Int), x, ()) := by
  refine List.ext_getElem? fun i => ?_
  rw [List.getElem?_map, List.getElem?_mapIdx]
  by_cases hi : i < xs.length
  · have h2 : i < (enum0 xs).length := by rw [enum0_len]; exact hi
    rw [List.getElem?_eq_getElem h2, List.getElem?_eq_getElem hi]
    obtain ⟨e1, e2⟩ := enum0_get (List.getElem?_eq_getElem h2)
    rw [List.getElem?_eq_getElem hi] at e2
    show some (g _) = some (g _)
    congr 2
    exact Prod.ext e1 (Prod.ext (Option.some.inj e2).symm rfl)
  · rw [List.getElem?_eq_none (by rw [enum0_len]; omega), List.getElem?_eq_none (by omega)]; rfl
theorem mapIdx_one {α β : Type} (A B : List α) (x : α) (h : α → β) (v : β) : (A ++ x :: B).mapIdx (fun i y => if (i : Int) = (A.length : Int) then v else h y) = A.map h ++ v :: B.map h := by
  refine List.ext_getElem? fun i => ?_
  rw [List.getElem?_mapIdx]
  by_cases h1 : i < A.length
  · rw [List.getElem?_append_left h1, List.getElem?_append_left (by rw [List.length_map]; exact h1), List.getElem?_map]
    cases A[i]? with
    | none => rfl
    | some y => exact congrArg some (if_neg (by omega))
  · obtain ⟨j, rfl⟩ : ∃ j, i = A.length + j := ⟨i - A.length, by omega⟩
    rw [List.getElem?_append_right (by omega), List.getElem?_append_right (by rw [List.length_map]; omega), List.length_map, Nat.add_sub_cancel_left]
    cases j with
    | zero => exact congrArg some (if_pos (by omega))
    | succ j =>
      rw [List.getElem?_cons_succ, List.getElem?_cons_succ, List.getElem?_map]
      cases B[j]? with
      | none => rfl
      | some y => exact congrArg some (if_neg (by omega))
theorem atL_last {p : List Int} {xs : List Int} {a : Int} (e : p = xs ++ [a]) : atI p (-1) = some a := by rw [e]; exact atI_last xs a
theorem Pls.last' {p pc pd : List Int} {N last : Int} (s : Pls p pc pd N last) : atI p (-1) = some last := atL_last (xs := pc ++ N :: pd) (by rw [s.eq]; simp)
theorem Pls.idx {p pc pd : List Int} {N last : Int} (s : Pls p pc pd N last) : List.idxOf N p = pc.length := by rw [s.eq]; exact idx_mid s.nN
theorem Pls.take {p pc pd : List Int} {N last : Int} (s : Pls p pc pd N last) : cutL p none (some ((pc.length : Int) + 1)) = pc ++ [N] := by
  have hl : pc.length + 1 ≤ p.length := by rw [s.eq]; simp <;> omega
  rw [show ((pc.length : Int) + 1) = ((pc.length + 1 : Nat) : Int) by omega, cutL_to _ _ hl, s.eq, show pc ++ N :: (pd ++ [last]) = (pc ++ [N]) ++ (pd ++ [last]) by simp]
  exact List.take_left' (by simp)
theorem Pls.mid {p pc pd : List Int} {N last : Int} (s : Pls p pc pd N last) : cutL p (some ((pc.length : Int) + 1)) (some N) = pd := by
  have hl : p.length = pc.length + 1 + pd.length + 1 := by rw [s.eq]; simp; omega
  have hN := s.len
  rw [show ((pc.length : Int) + 1) = ((pc.length + 1 : Nat) : Int) by omega, show N = ((p.length - 1 : Nat) : Int) by omega, cutL_mid _ _ _ (by omega) (by omega)]
  have e : p = ((pc ++ [N]) ++ pd) ++ [last] := by rw [s.eq]; simp
  rw [show p.take (p.length - 1) = (pc ++ [N]) ++ pd by rw [← List.dropLast_eq_take, e, List.dropLast_concat]]
  exact List.drop_left' (by simp)
theorem w_next_places {p pc pd : List Int} {N last : Int} {k : Str} {Q : List Int → Nat → Prop} (s : Pls p pc pd N last) (h40 : p.length ≤ 40) (q : Q (nxP pc pd N last k) c) : (m_next_places (p, k, ())).wp c Q X := by
  simp only [m_next_places, b_next_places, M.none_wp, M.bind_wp, M.ret_wp, M.need_wp, M.the_wp, M.ifb_wp, M.anyOf_wp, M.still_wp, M.roll_wp, M.pick_wp, M.thn_wp, M.thn_nx, M.thn_rt, M.thn_bk, M.thn_ct, M.fin_wp, M.fin_rt, M.finN_wp, M.finN_rt, M.finN_nx, M.FK_nx, M.FK_ct, M.FK_bk, M.FK_rt, decide_eq_true_eq, if_true, if_false, Bool.false_eq_true, Bool.not_eq_true', decide_eq_false_iff_not, Bool.not_true, Bool.not_false, ite_not]
  have hN := s.len
  rw [show ((p.length : Int) - 1) = N by omega, s.idx]
  refine ⟨_, s.last', by rw [s.eq]; simp, ?_⟩
  unfold nxP at q
  have hl : p.length = pc.length + 1 + pd.length + 1 := by rw [s.eq]; simp; omega
  by_cases z : k = KL
  · rw [if_pos z] at q
    refine (if_pos z).mpr ?_
    rw [s.take, s.mid, List.append_nil, show pc ++ [N] ++ last :: pd = pc ++ N :: last :: pd by simp]
    exact ⟨sizeL (by simp; omega), q⟩
  · rw [if_neg z] at q
    refine (if_neg z).mpr ⟨by rw [enum0_len]; omega, M.lcM_map (g := fun a => if a.1 = (pc.length : Int) then last + 1 else bump last a.2.1) (fun a ha Q q => ?_) ?_⟩
    · simp only [M.none_wp, M.bind_wp, M.ret_wp, M.need_wp, M.the_wp, M.ifb_wp, M.anyOf_wp, M.still_wp, M.roll_wp, M.pick_wp, M.thn_wp, M.thn_nx, M.thn_rt, M.thn_bk, M.thn_ct, M.fin_wp, M.fin_rt, M.finN_wp, M.finN_rt, M.finN_nx, M.FK_nx, M.FK_ct, M.FK_bk, M.FK_rt, decide_eq_true_eq, if_true, if_false, Bool.false_eq_true, Bool.not_eq_true', decide_eq_false_iff_not, Bool.not_true, Bool.not_false, ite_not, s.idx]
      by_cases y : a.1 = (pc.length : Int)
      · rw [if_pos y] at q
        exact (if_pos y).mpr q
      · rw [if_neg y] at q
        refine (if_neg y).mpr (cast (congrArg (fun b => Q b c) ?_) q)
        unfold bump
        by_cases w : last < a.2.1
        · simp [w]
        · simp [w]
    · rw [enum0_map, s.eq, mapIdx_one]
      exact q
end
end PF2

set_option Elab.async false
set_option linter.all false
set_option maxRecDepth 100000
set_option maxHeartbeats 400000
set_option exponentiation.threshold 20000
namespace PF2
open PF PySem PySem.Spec PyProof.Rows L2 SlX TL
section
variable {c : Nat} {X : Er → Prop} {o : Od}
/-! ### rows along a course -/
theorem w_are_whole {Q : Bool → Nat → Prop} (h : okOrd o) (hT : Q true c) (hF : ¬ o.NoCut → Q false c) : (m_are_whole_rows (o.up, o.lo, ())).wp c Q X := by
  simp only [m_are_whole_rows, b_are_whole_rows, M.none_wp, M.bind_wp, M.ret_wp, M.need_wp, M.the_wp, M.ifb_wp, M.anyOf_wp, M.still_wp, M.roll_wp, M.pick_wp, M.thn_wp, M.thn_nx, M.thn_rt, M.thn_bk, M.thn_ct, M.fin_wp, M.fin_rt, M.finN_wp, M.finN_rt, M.finN_nx, M.FK_nx, M.FK_ct, M.FK_bk, M.FK_rt, decide_eq_true_eq, if_true, if_false, Bool.false_eq_true, Bool.not_eq_true', decide_eq_false_iff_not, Bool.not_true, Bool.not_false, ite_not]
  have h40 := h.up.n40
  have h1 := h.up.n1
  have hl := len_eq h
  refine ⟨by rw [enum0_len]; omega, M.lcM_map (g := fun (a : Int × (Str × Unit)) => (a.2.1, a.1)) (fun a ha Q q => q) ?_⟩
  rw [w_idx h.lo.nd, cut_neg (by omega)]
  refine M.forM_inv (fun i ρ d => d = c ∧ ρ.1 = o.up ∧ ρ.2.2.1 = idxD o.lo ∧ ∀ x ∈ o.up.take i, (o.lo.idxOf x : Int) ≤ ρ.2.2.2.1) ⟨rfl, rfl, rfl, fun x hx => by simp at hx⟩ ?_ ?_
  · rintro i a ρ d hi ⟨rfl, e1, e2, e3⟩
    obtain ⟨a1, a2⟩ := enum0_get hi
    have hlt := (List.getElem?_eq_some_iff.mp a2).1
    rw [List.length_dropLast] at hlt
    have ai : o.up[i]? = some a.2.1 := by
      rw [List.dropLast_eq_take, List.getElem?_take_of_lt (by omega)] at a2
      exact a2
    have am : a.2.1 ∈ o.up := List.mem_of_getElem? ai
    simp only [M.none_wp, M.bind_wp, M.ret_wp, M.need_wp, M.the_wp, M.ifb_wp, M.anyOf_wp, M.still_wp, M.roll_wp, M.pick_wp, M.thn_wp, M.thn_nx, M.thn_rt, M.thn_bk, M.thn_ct, M.fin_wp, M.fin_rt, M.finN_wp, M.finN_rt, M.finN_nx, M.FK_nx, M.FK_ct, M.FK_bk, M.FK_rt, decide_eq_true_eq, if_true, if_false, Bool.false_eq_true, Bool.not_eq_true', decide_eq_false_iff_not, Bool.not_true, Bool.not_false, ite_not, e2, a1]
    refine ⟨_, dget_idx (idx_mem h am), ?_⟩
    have bound : ∀ g : Int, ρ.2.2.2.1 ≤ g → (o.lo.idxOf a.2.1 : Int) ≤ g → ∀ x ∈ o.up.take (i + 1), (o.lo.idxOf x : Int) ≤ g := fun g g1 g2 x hx => by
      rw [List.take_succ, ai] at hx
      rcases List.mem_append.mp hx with z | z
      · exact Int.le_trans (e3 x z) g1
      · rw [Option.toList_some, List.mem_singleton] at z
        rw [z]; exact g2
    generalize hg : (if (o.lo.idxOf a.2.1 : Int) > ρ.2.2.2.1 then (o.lo.idxOf a.2.1 : Int) else ρ.2.2.2.1) = g
    have g1 : ρ.2.2.2.1 ≤ g := by rw [← hg]; split <;> omega
    have g2 : (o.lo.idxOf a.2.1 : Int) ≤ g := by rw [← hg]; split <;> omega
    by_cases z : g = (i : Int)
    · refine (if_pos z).mpr (hF fun nc => ?_)
      refine nc.2 (i + 1) (by omega) (by omega) fun x hx => ?_
      have := bound g g1 g2 x hx
      exact idx_take.mpr ⟨idx_mem h (List.mem_of_mem_take hx), by omega⟩
    · exact (if_neg z).mpr ⟨trivial, e1, trivial, bound g g1 g2⟩
  · rintro ρ d ⟨rfl, e1, e2, e3⟩
    simp only [M.none_wp, M.bind_wp, M.ret_wp, M.need_wp, M.the_wp, M.ifb_wp, M.anyOf_wp, M.still_wp, M.roll_wp, M.pick_wp, M.thn_wp, M.thn_nx, M.thn_rt, M.thn_bk, M.thn_ct, M.fin_wp, M.fin_rt, M.finN_wp, M.finN_rt, M.finN_nx, M.FK_nx, M.FK_ct, M.FK_bk, M.FK_rt, decide_eq_true_eq, if_true, if_false, Bool.false_eq_true, Bool.not_eq_true', decide_eq_false_iff_not, Bool.not_true, Bool.not_false, ite_not, e1]
    by_cases z : 1 < (o.up.length : Int)
    · rw [decide_eq_true z]; exact hT
    · rw [decide_eq_false z]; exact hF fun nc => by have := nc.1; omega
abbrev R2' := Option (List Str × (List Str × Unit))
def UL (d : List Str) : Prop := ∀ x ∈ d, x = KL ∨ x = KU
theorem UL.get {d : List Str} (h : UL d) {i : Nat} {a : Str} (e : d[i]? = some a) : a = KU ∨ a = KL := (h a (List.mem_of_getElem? e)).symm
theorem w_rows_along {Q : List R2' → Nat → Prop} {d : List Str} (r : Rch o o) (hk : UL d) (hd : d.length ≤ 4000) (q : ∀ bs h, Rch o h → h = o.far d → Q (bs ++ [some (h.up, h.lo, ())]) c) : (m_rows_along (o.up, o.lo, d, ())).wp c Q X := by
  simp only [m_rows_along, b_rows_along, M.gen, M.none_wp, M.bind_wp, M.ret_wp, M.need_wp, M.the_wp, M.ifb_wp, M.anyOf_wp, M.still_wp, M.roll_wp, M.pick_wp, M.thn_wp, M.thn_nx, M.thn_rt, M.thn_bk, M.thn_ct, M.fin_wp, M.fin_rt, M.finN_wp, M.finN_rt, M.finN_nx, M.FK_nx, M.FK_ct, M.FK_bk, M.FK_rt, decide_eq_true_eq, if_true, if_false, Bool.false_eq_true, Bool.not_eq_true', decide_eq_false_iff_not, Bool.not_true, Bool.not_false, ite_not, withB]
  refine w_are_whole r.ok ?_ fun nn => absurd r.nc nn
  refine ⟨sizeLt (by decide), ?_⟩
  refine M.forM_inv (fun i z e => e = c ∧ z.1.length = i + 1 ∧ ∃ h : Od, Rch o h ∧ z.2.1 = h.up ∧ z.2.2.1 = h.lo ∧ z.2.2.2.2.1 = true ∧ (∃ bs, z.1 = bs ++ [some (h.up, h.lo, ())]) ∧ h.far (d.drop i) = o.far d) ⟨rfl, rfl, o, r, rfl, rfl, rfl, ⟨[], rfl⟩, rfl⟩ ?_ ?_
  · rintro i a z e hi ⟨rfl, e0, h, rh, e1, e2, e3, e4, e5⟩
    have hlt := (List.getElem?_eq_some_iff.mp hi).1
    simp only [M.none_wp, M.bind_wp, M.ret_wp, M.need_wp, M.the_wp, M.ifb_wp, M.anyOf_wp, M.still_wp, M.roll_wp, M.pick_wp, M.thn_wp, M.thn_nx, M.thn_rt, M.thn_bk, M.thn_ct, M.fin_wp, M.fin_rt, M.finN_wp, M.finN_rt, M.finN_nx, M.FK_nx, M.FK_ct, M.FK_bk, M.FK_rt, decide_eq_true_eq, if_true, if_false, Bool.false_eq_true, Bool.not_eq_true', decide_eq_false_iff_not, Bool.not_true, Bool.not_false, ite_not, e1, e2, e3]
    refine w_led_rows rh.ok rh.nc (hk.get hi) ?_
    have ne : ¬ a = "even" := by rcases hk.get hi with z | z <;> (rw [z]; decide)
    simp only [ne, M.none_wp, M.bind_wp, M.ret_wp, M.need_wp, M.the_wp, M.ifb_wp, M.anyOf_wp, M.still_wp, M.roll_wp, M.pick_wp, M.thn_wp, M.thn_nx, M.thn_rt, M.thn_bk, M.thn_ct, M.fin_wp, M.fin_rt, M.finN_wp, M.finN_rt, M.finN_nx, M.FK_nx, M.FK_ct, M.FK_bk, M.FK_rt, decide_eq_true_eq, if_true, if_false, Bool.false_eq_true, Bool.not_eq_true', decide_eq_false_iff_not, Bool.not_true, Bool.not_false, ite_not, if_true, not_false_eq_true, decide_true, decide_false, Bool.not_false]
    refine ⟨sizeLt (by omega), ?_⟩
    rw [drop_get hi] at e5
    exact ⟨trivial, by rw [List.length_append, e0]; rfl, h.stK a, rh.K a, rfl, rfl, trivial, ⟨_, rfl⟩, e5⟩
  · rintro z e ⟨rfl, e0, h, rh, e1, e2, e3, ⟨bs, e4⟩, e5⟩
    rw [List.drop_length] at e5
    simp only [M.none_wp, M.bind_wp, M.ret_wp, M.need_wp, M.the_wp, M.ifb_wp, M.anyOf_wp, M.still_wp, M.roll_wp, M.pick_wp, M.thn_wp, M.thn_nx, M.thn_rt, M.thn_bk, M.thn_ct, M.fin_wp, M.fin_rt, M.finN_wp, M.finN_rt, M.finN_nx, M.FK_nx, M.FK_ct, M.FK_bk, M.FK_rt, decide_eq_true_eq, if_true, if_false, Bool.false_eq_true, Bool.not_eq_true', decide_eq_false_iff_not, Bool.not_true, Bool.not_false, ite_not, M.gK, e4]
    exact q bs h rh e5
theorem w_rows_along_nil {Q : List R2' → Nat → Prop} (h : okOrd o) (q : Q [some (o.up, o.lo, ())] c) : (m_rows_along (o.up, o.lo, [], ())).wp c Q X := by
  simp only [m_rows_along, b_rows_along, M.gen, M.none_wp, M.bind_wp, M.ret_wp, M.need_wp, M.the_wp, M.ifb_wp, M.anyOf_wp, M.still_wp, M.roll_wp, M.pick_wp, M.thn_wp, M.thn_nx, M.thn_rt, M.thn_bk, M.thn_ct, M.fin_wp, M.fin_rt, M.finN_wp, M.finN_rt, M.finN_nx, M.FK_nx, M.FK_ct, M.FK_bk, M.FK_rt, decide_eq_true_eq, if_true, if_false, Bool.false_eq_true, Bool.not_eq_true', decide_eq_false_iff_not, Bool.not_true, Bool.not_false, ite_not, withB]
  have fin : ∀ b : Bool, (0 : Nat) < sizeLine ∧ Q [some (o.up, o.lo, ())] c := fun _ => ⟨sizeLt (by decide), q⟩
  refine w_are_whole h ?_ fun _ => ?_
  · simp only [M.forM_nil, M.none_wp, M.bind_wp, M.ret_wp, M.need_wp, M.the_wp, M.ifb_wp, M.anyOf_wp, M.still_wp, M.roll_wp, M.pick_wp, M.thn_wp, M.thn_nx, M.thn_rt, M.thn_bk, M.thn_ct, M.fin_wp, M.fin_rt, M.finN_wp, M.finN_rt, M.finN_nx, M.FK_nx, M.FK_ct, M.FK_bk, M.FK_rt, decide_eq_true_eq, if_true, if_false, Bool.false_eq_true, Bool.not_eq_true', decide_eq_false_iff_not, Bool.not_true, Bool.not_false, ite_not, M.gK]
    exact fin true
  · simp only [M.forM_nil, M.none_wp, M.bind_wp, M.ret_wp, M.need_wp, M.the_wp, M.ifb_wp, M.anyOf_wp, M.still_wp, M.roll_wp, M.pick_wp, M.thn_wp, M.thn_nx, M.thn_rt, M.thn_bk, M.thn_ct, M.fin_wp, M.fin_rt, M.finN_wp, M.finN_rt, M.finN_nx, M.FK_nx, M.FK_ct, M.FK_bk, M.FK_rt, decide_eq_true_eq, if_true, if_false, Bool.false_eq_true, Bool.not_eq_true', decide_eq_false_iff_not, Bool.not_true, Bool.not_false, ite_not, M.gK]
    exact fin true
theorem w_rows_behind {Q : R2' → Nat → Prop} {d : List Str} (r : Rch o o) (hk : UL d) (hd : d.length ≤ 4000) (q : ∀ h, Rch o h → h = o.far d → Q (some (h.up, h.lo, ())) c) : (m_rows_behind (o.up, o.lo, d, ())).wp c Q X := by
  simp only [m_rows_behind, b_rows_behind, M.none_wp, M.bind_wp, M.ret_wp, M.need_wp, M.the_wp, M.ifb_wp, M.anyOf_wp, M.still_wp, M.roll_wp, M.pick_wp, M.thn_wp, M.thn_nx, M.thn_rt, M.thn_bk, M.thn_ct, M.fin_wp, M.fin_rt, M.finN_wp, M.finN_rt, M.finN_nx, M.FK_nx, M.FK_ct, M.FK_bk, M.FK_rt, decide_eq_true_eq, if_true, if_false, Bool.false_eq_true, Bool.not_eq_true', decide_eq_false_iff_not, Bool.not_true, Bool.not_false, ite_not]
  refine w_rows_along r hk hd fun bs h rh eh => ?_
  rw [lastOr_snoc]
  exact q h rh eh
theorem w_rows_behind_nil {Q : R2' → Nat → Prop} (h : okOrd o) (q : Q (some (o.up, o.lo, ())) c) : (m_rows_behind (o.up, o.lo, [], ())).wp c Q X := by
  simp only [m_rows_behind, b_rows_behind, M.none_wp, M.bind_wp, M.ret_wp, M.need_wp, M.the_wp, M.ifb_wp, M.anyOf_wp, M.still_wp, M.roll_wp, M.pick_wp, M.thn_wp, M.thn_nx, M.thn_rt, M.thn_bk, M.thn_ct, M.fin_wp, M.fin_rt, M.finN_wp, M.finN_rt, M.finN_nx, M.FK_nx, M.FK_ct, M.FK_bk, M.FK_rt, decide_eq_true_eq, if_true, if_false, Bool.false_eq_true, Bool.not_eq_true', decide_eq_false_iff_not, Bool.not_true, Bool.not_false, ite_not]
  exact w_rows_along_nil h q
theorem w_is_kinds {Q : Bool → Nat → Prop} {d : List Str} (hk : UL d) (hd : d.length ≤ 4000) (q : Q true c) : (m_is_kinds (d, ())).wp c Q X := by
  simp only [m_is_kinds, b_is_kinds, M.none_wp, M.bind_wp, M.ret_wp, M.need_wp, M.the_wp, M.ifb_wp, M.anyOf_wp, M.still_wp, M.roll_wp, M.pick_wp, M.thn_wp, M.thn_nx, M.thn_rt, M.thn_bk, M.thn_ct, M.fin_wp, M.fin_rt, M.finN_wp, M.finN_rt, M.finN_nx, M.FK_nx, M.FK_ct, M.FK_bk, M.FK_rt, decide_eq_true_eq, if_true, if_false, Bool.false_eq_true, Bool.not_eq_true', decide_eq_false_iff_not, Bool.not_true, Bool.not_false, ite_not]
  refine (if_neg (by simp)).mpr ((if_neg (by omega)).mpr ⟨by omega, M.lcM_map (g := fun _ => true) (fun a ha Q q => ?_) ?_⟩)
  · simp only [M.none_wp, M.bind_wp, M.ret_wp, M.need_wp, M.the_wp, M.ifb_wp, M.anyOf_wp, M.still_wp, M.roll_wp, M.pick_wp, M.thn_wp, M.thn_nx, M.thn_rt, M.thn_bk, M.thn_ct, M.fin_wp, M.fin_rt, M.finN_wp, M.finN_rt, M.finN_nx, M.FK_nx, M.FK_ct, M.FK_bk, M.FK_rt, decide_eq_true_eq, if_true, if_false, Bool.false_eq_true, Bool.not_eq_true', decide_eq_false_iff_not, Bool.not_true, Bool.not_false, ite_not]
    have e : decide (a ∈ [Str.ofString "upper", Str.ofString "lower", Str.ofString "even"]) = true := by
      rcases hk a ha with z | z <;> (rw [z]; decide +kernel)
    rw [e]; exact q
  · have e : (d.map fun _ => true).all id = true := by simp
    rw [e]; exact q
theorem w_require_course {Q : _ → Nat → Prop} {d : List Str} (r : Rch o o) (hk : UL d) (hd : d.length ≤ 4000) (q : ∀ h, Rch o h → h = o.far d → Q (h.up, h.lo, ()) c) : (m_require_course (o, d, ())).wp c Q X := by
  simp only [m_require_course, b_require_course, M.none_wp, M.bind_wp, M.ret_wp, M.need_wp, M.the_wp, M.ifb_wp, M.anyOf_wp, M.still_wp, M.roll_wp, M.pick_wp, M.thn_wp, M.thn_nx, M.thn_rt, M.thn_bk, M.thn_ct, M.fin_wp, M.fin_rt, M.finN_wp, M.finN_rt, M.finN_nx, M.FK_nx, M.FK_ct, M.FK_bk, M.FK_rt, decide_eq_true_eq, if_true, if_false, Bool.false_eq_true, Bool.not_eq_true', decide_eq_false_iff_not, Bool.not_true, Bool.not_false, ite_not]
  refine w_is_kinds hk hd ((if_pos rfl).mpr (w_above (w_below (w_rows_behind r hk hd fun h rh eh => ?_))))
  exact (if_neg (by simp)).mpr ⟨_, rfl, q h rh eh⟩
theorem w_require_course_nil {Q : _ → Nat → Prop} (h : okOrd o) (q : Q (o.up, o.lo, ()) c) : (m_require_course (o, [], ())).wp c Q X := by
  simp only [m_require_course, b_require_course, M.none_wp, M.bind_wp, M.ret_wp, M.need_wp, M.the_wp, M.ifb_wp, M.anyOf_wp, M.still_wp, M.roll_wp, M.pick_wp, M.thn_wp, M.thn_nx, M.thn_rt, M.thn_bk, M.thn_ct, M.fin_wp, M.fin_rt, M.finN_wp, M.finN_rt, M.finN_nx, M.FK_nx, M.FK_ct, M.FK_bk, M.FK_rt, decide_eq_true_eq, if_true, if_false, Bool.false_eq_true, Bool.not_eq_true', decide_eq_false_iff_not, Bool.not_true, Bool.not_false, ite_not]
  refine w_is_kinds (fun x hx => by cases hx) (by decide) ((if_pos rfl).mpr (w_above (w_below (w_rows_behind_nil h ?_))))
  exact (if_neg (by simp)).mpr ⟨_, rfl, q⟩
theorem eqE {d : List Str} (hk : UL d) : ¬ Str.ofString "even" ∈ d := fun z => by
  rcases hk _ z with y | y
  · exact absurd y (by decide)
  · exact absurd y (by decide)
theorem lay_ul {d : List Str} (hk : UL d) : (PyData.tuple (d.map PyData.str)).canLay0 = true := lay_tup (lay_ks hk)
theorem lay_nilT : (PyData.tuple []).canLay0 = true := lay_tup fun _ z => by cases z
def KS : List Str := [KU, KL]
theorem w_pickK {Q : Str → Nat → Prop} (hc : c < 10000) (q : ∀ x, x = KL ∨ x = KU → Q x (c + 1)) : (M.pick [Str.ofString "upper", Str.ofString "lower"]).wp c Q X := by
  simp only [M.none_wp, M.bind_wp, M.ret_wp, M.need_wp, M.the_wp, M.ifb_wp, M.anyOf_wp, M.still_wp, M.roll_wp, M.pick_wp, M.thn_wp, M.thn_nx, M.thn_rt, M.thn_bk, M.thn_ct, M.fin_wp, M.fin_rt, M.finN_wp, M.finN_rt, M.finN_nx, M.FK_nx, M.FK_ct, M.FK_bk, M.FK_rt, decide_eq_true_eq, if_true, if_false, Bool.false_eq_true, Bool.not_eq_true', decide_eq_false_iff_not, Bool.not_true, Bool.not_false, ite_not]
  refine ⟨by omega, by decide, by decide, fun x hx => q x ?_⟩
  rcases List.mem_cons.mp hx with z | z
  · exact .inr z
  · exact .inl (List.mem_singleton.mp z)
end
end PF2

set_option Elab.async false
set_option linter.all false
set_option maxRecDepth 100000
set_option maxHeartbeats 400000
set_option exponentiation.threshold 20000
namespace PF2
open PF PySem PySem.Spec PyProof.Rows L2 SlX TL
section
variable {c : Nat} {X : Er → Prop} {o : Od} {k : Str}
theorem w_next {Q : List Int → Nat → Prop} (h : okOrd o) (nc : o.NoCut) (hk : k = KU ∨ k = KL) (q : Q (o.stK k).plc c) : (m_next_places (o.plc, k, ())).wp c Q X := by
  obtain ⟨A, B, C, D, a, b, s⟩ := spl h nc
  refine w_next_places s.pls (by rw [plc_len]; exact h.up.n40) ?_
  rw [← s.plc_st hk]; exact q
theorem w_moved {Q : List Int → Nat → Prop} (h : okOrd o) (nc : o.NoCut) (hk : k = KU ∨ k = KL) (q : Q (o.stK k).plc c) : (m_moved (o.plc, k, ())).wp c Q X := by
  simp only [m_moved, b_moved, M.none_wp, M.bind_wp, M.ret_wp, M.need_wp, M.the_wp, M.ifb_wp, M.anyOf_wp, M.still_wp, M.roll_wp, M.pick_wp, M.thn_wp, M.thn_nx, M.thn_rt, M.thn_bk, M.thn_ct, M.fin_wp, M.fin_rt, M.finN_wp, M.finN_rt, M.finN_nx, M.FK_nx, M.FK_ct, M.FK_bk, M.FK_rt, decide_eq_true_eq, if_true, if_false, Bool.false_eq_true, Bool.not_eq_true', decide_eq_false_iff_not, Bool.not_true, Bool.not_false, ite_not]
  refine w_are_places h nc ((if_neg (by simp)).mpr ?_)
  refine w_is_walked hk ((if_neg (by simp)).mpr ?_)
  exact w_next h nc hk q
theorem w_places_of {Q : List Int → Nat → Prop} (h : okOrd o) (q : Q o.plc c) : (m__law_places_of (o.up, o.lo, ())).wp c Q X := by
  simp only [m__law_places_of, b__law_places_of, M.none_wp, M.bind_wp, M.ret_wp, M.need_wp, M.the_wp, M.ifb_wp, M.anyOf_wp, M.still_wp, M.roll_wp, M.pick_wp, M.thn_wp, M.thn_nx, M.thn_rt, M.thn_bk, M.thn_ct, M.fin_wp, M.fin_rt, M.finN_wp, M.finN_rt, M.finN_nx, M.FK_nx, M.FK_ct, M.FK_bk, M.FK_rt, decide_eq_true_eq, if_true, if_false, Bool.false_eq_true, Bool.not_eq_true', decide_eq_false_iff_not, Bool.not_true, Bool.not_false, ite_not]
  have h40 := h.up.n40
  refine ⟨by omega, M.lcM_map (g := fun x => (o.lo.idxOf x : Int)) (fun a ha Q q => ?_) q⟩
  simp only [M.none_wp, M.bind_wp, M.ret_wp, M.need_wp, M.the_wp, M.ifb_wp, M.anyOf_wp, M.still_wp, M.roll_wp, M.pick_wp, M.thn_wp, M.thn_nx, M.thn_rt, M.thn_bk, M.thn_ct, M.fin_wp, M.fin_rt, M.finN_wp, M.finN_rt, M.finN_nx, M.FK_nx, M.FK_ct, M.FK_bk, M.FK_rt, decide_eq_true_eq, if_true, if_false, Bool.false_eq_true, Bool.not_eq_true', decide_eq_false_iff_not, Bool.not_true, Bool.not_false, ite_not]
  exact ⟨idx_mem h ha, q⟩
theorem w_order_behind {Q : Od → Nat → Prop} {d : List Str} (r : Rch o o) (hk : UL d) (hd : d.length ≤ 4000) (q : Q (o.far d) c) : (m_order_behind (o, d, ())).wp c Q X := by
  simp only [m_order_behind, b_order_behind, M.none_wp, M.bind_wp, M.ret_wp, M.need_wp, M.the_wp, M.ifb_wp, M.anyOf_wp, M.still_wp, M.roll_wp, M.pick_wp, M.thn_wp, M.thn_nx, M.thn_rt, M.thn_bk, M.thn_ct, M.fin_wp, M.fin_rt, M.finN_wp, M.finN_rt, M.finN_nx, M.FK_nx, M.FK_ct, M.FK_bk, M.FK_rt, decide_eq_true_eq, if_true, if_false, Bool.false_eq_true, Bool.not_eq_true', decide_eq_false_iff_not, Bool.not_true, Bool.not_false, ite_not]
  refine w_require_order (w_require_course r hk hd fun h rh eh => ?_)
  subst eh
  exact ⟨rh.ok, q⟩
theorem Pls.mid2 {p pc pd : List Int} {N last : Int} (s : Pls p pc pd N last) : cutL p (some ((pc.length : Int) + 1)) (some (-1)) = pd := by
  rw [← s.mid]
  unfold cutL
  have hN := s.len
  have hl : p.length = pc.length + 1 + pd.length + 1 := by rw [s.eq]; simp; omega
  have e1 : HT.sIx p.length p.length (some (-1)) = p.length - 1 := by
    unfold HT.sIx
    simp
    omega
  have e2 : HT.sIx p.length p.length (some N) = p.length - 1 := by
    rw [show N = ((p.length - 1 : Nat) : Int) by omega, HT.sIx_nat]; omega
  rw [e1, e2]
theorem ixN_n {n j : Nat} (hj : j < n) : ixN n (j : Int) = some j := by
  unfold ixN
  rw [if_pos (by omega), if_pos (by omega)]
  rfl
theorem set_one {α : Type} (A B : List α) (x v : α) : (A ++ x :: B).set A.length v = A ++ v :: B := by
  rw [List.set_append_right _ _ (Nat.le_refl _), Nat.sub_self]; rfl
theorem w_by_rule {p pc pd : List Int} {N last : Int} {Q : List Int → Nat → Prop} (s : Pls p pc pd N last) (h40 : p.length ≤ 40) (q : Q (nxP pc pd N last k) c) : (m__law_by_rule (p, k, ())).wp c Q X := by
  simp only [m__law_by_rule, b__law_by_rule, M.none_wp, M.bind_wp, M.ret_wp, M.need_wp, M.the_wp, M.ifb_wp, M.anyOf_wp, M.still_wp, M.roll_wp, M.pick_wp, M.thn_wp, M.thn_nx, M.thn_rt, M.thn_bk, M.thn_ct, M.fin_wp, M.fin_rt, M.finN_wp, M.finN_rt, M.finN_nx, M.FK_nx, M.FK_ct, M.FK_bk, M.FK_rt, decide_eq_true_eq, if_true, if_false, Bool.false_eq_true, Bool.not_eq_true', decide_eq_false_iff_not, Bool.not_true, Bool.not_false, ite_not]
  have hN := s.len
  rw [show ((p.length : Int) - 1) = N by omega, s.idx]
  refine ⟨_, s.last', by rw [s.eq]; simp, ?_⟩
  unfold nxP at q
  have hl : p.length = pc.length + 1 + pd.length + 1 := by rw [s.eq]; simp; omega
  by_cases z : k = KL
  · rw [if_pos z] at q
    refine (if_pos z).mpr ?_
    rw [s.take, s.mid2]
    refine ⟨sizeL (by simp; omega), sizeL (by simp; omega), ?_⟩
    rw [show pc ++ [N] ++ [last] ++ pd = pc ++ N :: last :: pd by simp]
    exact q
  · rw [if_neg z] at q
    refine (if_neg z).mpr ⟨by omega, M.lcM_map (g := fun x => if x ≤ last then x else x + 1) (fun a ha Q q => ?_) ?_⟩
    · simp only [M.none_wp, M.bind_wp, M.ret_wp, M.need_wp, M.the_wp, M.ifb_wp, M.anyOf_wp, M.still_wp, M.roll_wp, M.pick_wp, M.thn_wp, M.thn_nx, M.thn_rt, M.thn_bk, M.thn_ct, M.fin_wp, M.fin_rt, M.finN_wp, M.finN_rt, M.finN_nx, M.FK_nx, M.FK_ct, M.FK_bk, M.FK_rt, decide_eq_true_eq, if_true, if_false, Bool.false_eq_true, Bool.not_eq_true', decide_eq_false_iff_not, Bool.not_true, Bool.not_false, ite_not]
      by_cases y : a ≤ last
      · rw [if_pos y] at q
        exact (if_pos y).mpr q
      · rw [if_neg y] at q
        exact (if_neg y).mpr q
    · rw [List.length_map]
      refine ⟨_, ixN_n (by omega), ?_⟩
      have e : (fun x => if x ≤ last then x else x + 1) = bump last := by
        funext x
        unfold bump
        by_cases w : last < x
        · rw [if_neg (by omega), if_pos w]
        · rw [if_pos (by omega), if_neg w]; omega
      have e2 := set_one (pc.map (bump last)) ((pd ++ [last]).map (bump last)) (bump last N) (last + 1)
      rw [List.length_map] at e2
      rw [e, s.eq, List.map_append, List.map_cons, e2]
      exact q
theorem up_inj {u : List Str} (nd : u.Nodup) : ∀ x ∈ u, ∀ y ∈ u, (u.idxOf x : Int) = (u.idxOf y : Int) → x = y := fun x hx y hy e => by
  have e : u.idxOf x = u.idxOf y := by omega
  have e1 := idx_get hx
  have e2 := idx_get hy
  rw [e, e2] at e1
  cases e1; rfl
theorem up_rng {u : List Str} (nd : u.Nodup) : u.map (fun x => (u.idxOf x : Int)) = rng 0 u.length := by
  refine List.ext_getElem? fun i => ?_
  rw [rng_eq, List.getElem?_map, List.getElem?_map]
  by_cases hi : i < u.length
  · rw [List.getElem?_eq_getElem hi, List.getElem?_eq_getElem (by rw [List.length_range]; omega), List.getElem_range]
    show some (u.idxOf u[i] : Int) = some (0 + (i : Int))
    rw [nd_idx nd (List.getElem?_eq_getElem hi), Int.zero_add]
  · rw [List.getElem?_eq_none (by omega), List.getElem?_eq_none (by rw [List.length_range]; omega)]; rfl
theorem lmoved_end {u l : List Str} {f : Str → Int} (hi : ∀ x ∈ u, ∀ y ∈ u, f x = f y → x = y) (hl : ∀ x, x ∈ l ↔ x ∈ u) (h40 : u.length ≤ 40) {Q : List Int → Nat → Prop} (q : Q (pl u l) c) :
    (u.map f).length ≤ 1000000 ∧ (M.lcM (u.map f) fun a587 => (M.ret true).bind fun b588 => M.ifb b588 (((M.ret a587).bind fun x584 => M.need (x584 ∈ l.map f) (M.ret (List.idxOf x584 (l.map f) : Int))).bind fun y589 => M.ret (some y589)) (M.ret none)).wp c Q X := by
  refine ⟨by rw [List.length_map]; omega, M.lcM_map (g := fun y => (List.idxOf y (l.map f) : Int)) (fun y hy Q q => ?_) ?_⟩
  · simp only [M.none_wp, M.bind_wp, M.ret_wp, M.need_wp, M.the_wp, M.ifb_wp, M.anyOf_wp, M.still_wp, M.roll_wp, M.pick_wp, M.thn_wp, M.thn_nx, M.thn_rt, M.thn_bk, M.thn_ct, M.fin_wp, M.fin_rt, M.finN_wp, M.finN_rt, M.finN_nx, M.FK_nx, M.FK_ct, M.FK_bk, M.FK_rt, decide_eq_true_eq, if_true, if_false, Bool.false_eq_true, Bool.not_eq_true', decide_eq_false_iff_not, Bool.not_true, Bool.not_false, ite_not]
    obtain ⟨x, hx, rfl⟩ := List.mem_map.mp hy
    exact ⟨List.mem_map.mpr ⟨x, (hl x).mpr hx, rfl⟩, q⟩
  · have e := pl_map (f := f) (u := u) (l := l) fun x hx y hy e => hi y ((hl y).mp hy) x hx e
    rw [← e] at q
    exact q
theorem w_lmoved {Q : List Int → Nat → Prop} (h : okOrd o) (nc : o.NoCut) (hk : k = KU ∨ k = KL) (q : Q (o.stK k).plc c) : (m__law_moved_places (o.plc, k, ())).wp c Q X := by
  simp only [m__law_moved_places, b__law_moved_places, M.none_wp, M.bind_wp, M.ret_wp, M.need_wp, M.the_wp, M.ifb_wp, M.anyOf_wp, M.still_wp, M.roll_wp, M.pick_wp, M.thn_wp, M.thn_nx, M.thn_rt, M.thn_bk, M.thn_ct, M.fin_wp, M.fin_rt, M.finN_wp, M.finN_rt, M.finN_nx, M.FK_nx, M.FK_ct, M.FK_bk, M.FK_rt, decide_eq_true_eq, if_true, if_false, Bool.false_eq_true, Bool.not_eq_true', decide_eq_false_iff_not, Bool.not_true, Bool.not_false, ite_not]
  have h40 := h.up.n40
  have hl := len_eq h
  have pl0 := plc_len o
  obtain ⟨A, B, C, D, a, b, s⟩ := spl h nc
  have fi : ∀ x ∈ o.up, ∀ y ∈ o.up, (fun x => (o.up.idxOf x : Int)) x = (fun x => (o.up.idxOf x : Int)) y → x = y := up_inj h.up.nd
  generalize hf : (fun x => (o.up.idxOf x : Int)) = f at fi
  refine ⟨⟨by omega, by omega⟩, ⟨by omega, by omega, sizeL (by simp; omega)⟩, ?_⟩
  refine M.forM_inv (fun i ρ d => d = c ∧ ρ.1 = o.plc ∧ ρ.2.1 = k ∧ ρ.2.2.1 = o.up.map f ∧ ρ.2.2.2.1.length = o.up.length ∧ ∀ j, j < i → ∀ x, o.up[j]? = some x → ρ.2.2.2.1[o.lo.idxOf x]? = some (j : Int)) ⟨rfl, rfl, rfl, ?_, ?_, fun j hj => absurd hj (Nat.not_lt_zero _)⟩ ?_ ?_
  · rw [pl0, ← hf]; exact (up_rng h.up.nd).symm
  · simp [pl0]
  · rintro i e ρ d hi ⟨rfl, e1, e2, e3, e4, e5⟩
    obtain ⟨a1, a2⟩ := enum0_get hi
    unfold Od.plc at a2
    rw [List.getElem?_map] at a2
    obtain ⟨x, hx, ex⟩ := Option.map_eq_some_iff.mp a2
    have xm : x ∈ o.up := List.mem_of_getElem? hx
    have xl := List.idxOf_lt_length_iff.mpr (idx_mem h xm)
    rw [hl] at xl
    simp only [M.none_wp, M.bind_wp, M.ret_wp, M.need_wp, M.the_wp, M.ifb_wp, M.anyOf_wp, M.still_wp, M.roll_wp, M.pick_wp, M.thn_wp, M.thn_nx, M.thn_rt, M.thn_bk, M.thn_ct, M.fin_wp, M.fin_rt, M.finN_wp, M.finN_rt, M.finN_nx, M.FK_nx, M.FK_ct, M.FK_bk, M.FK_rt, decide_eq_true_eq, if_true, if_false, Bool.false_eq_true, Bool.not_eq_true', decide_eq_false_iff_not, Bool.not_true, Bool.not_false, ite_not, a1, ← ex, e4]
    refine ⟨_, ixN_n xl, trivial, e1, e2, e3, by rw [List.length_set]; exact e4, fun j hj y hy => ?_⟩
    by_cases z : j = i
    · subst z
      rw [hx] at hy
      cases hy
      exact List.getElem?_set_self (by omega)
    · have ne : o.lo.idxOf x ≠ o.lo.idxOf y := fun w => by
        have m1 := idx_get (idx_mem h xm)
        have m2 := idx_get (idx_mem h (List.mem_of_getElem? hy))
        rw [w, m2] at m1
        cases m1
        have g1 := nd_idx h.up.nd hx
        have g2 := nd_idx h.up.nd hy
        omega
      rw [List.getElem?_set_ne ne]
      exact e5 j (by omega) y hy
  · rintro ρ d ⟨rfl, e1, e2, e3, e4, e5⟩
    have lo : ρ.2.2.2.1 = o.lo.map f := by
      refine List.ext_getElem? fun m => ?_
      rw [List.getElem?_map]
      by_cases hm : m < o.lo.length
      · have g := List.getElem?_eq_getElem hm
        have ym : o.lo[m] ∈ o.up := h.pm.mem_iff.mp (List.getElem_mem hm)
        have jl := List.idxOf_lt_length_iff.mpr ym
        have := e5 (o.up.idxOf o.lo[m]) (by rw [enum0_len, pl0]; exact jl) o.lo[m] (idx_get ym)
        rw [nd_idx h.lo.nd g] at this
        rw [this, g, ← hf]; rfl
      · rw [List.getElem?_eq_none (by omega), List.getElem?_eq_none (by omega)]; rfl
    have la : atI (o.up.map f) (-1) = some (f a) := atL_last (xs := (C ++ b :: D).map f) (by rw [s.up]; simp)
    have lb : atI (o.lo.map f) (-1) = some (f b) := atL_last (xs := (A ++ a :: B).map f) (by rw [s.lo]; simp)
    have du : (o.up.map f).dropLast = (C ++ b :: D).map f := by rw [← List.map_dropLast]; exact congrArg _ s.inv.dl
    have dl : (o.lo.map f).dropLast = (A ++ a :: B).map f := by rw [← List.map_dropLast, s.dl]
    have ma : a ∈ o.up := by rw [s.up]; simp
    have mb : b ∈ o.up := by rw [s.up]; simp
    have lnA : (A ++ a :: B).length + 1 = o.up.length := by rw [← hl, s.lo]; simp; omega
    have lnC : (C ++ b :: D).length + 1 = o.up.length := by rw [s.up]; simp; omega
    simp only [M.none_wp, M.bind_wp, M.ret_wp, M.need_wp, M.the_wp, M.ifb_wp, M.anyOf_wp, M.still_wp, M.roll_wp, M.pick_wp, M.thn_wp, M.thn_nx, M.thn_rt, M.thn_bk, M.thn_ct, M.fin_wp, M.fin_rt, M.finN_wp, M.finN_rt, M.finN_nx, M.FK_nx, M.FK_ct, M.FK_bk, M.FK_rt, decide_eq_true_eq, if_true, if_false, Bool.false_eq_true, Bool.not_eq_true', decide_eq_false_iff_not, Bool.not_true, Bool.not_false, ite_not, e1, e2, e3, lo]
    have lA : (A ++ a :: B).length = A.length + (B.length + 1) := by simp
    have lC : (C ++ b :: D).length = C.length + (D.length + 1) := by simp
    have lol : o.lo = (A ++ a :: B) ++ [b] := by rw [s.lo]; simp
    have upl : o.up = (C ++ b :: D) ++ [a] := by rw [s.up]; simp
    have gl : (o.lo.map f).getLast? = some (f b) := by rw [lol, List.map_append]; exact List.getLast?_concat
    have gu : (o.up.map f).getLast? = some (f a) := by rw [upl, List.map_append]; exact List.getLast?_concat
    have iA : ∀ y ∈ A ++ a :: B, y ∈ o.up := fun y hy => s.mem.mpr (by rw [lol]; exact List.mem_append_left _ hy)
    have iC : ∀ y ∈ C ++ b :: D, y ∈ o.up := fun y hy => by rw [upl]; exact List.mem_append_left _ hy
    refine ⟨_, la, _, lb, ?_⟩
    rcases hk with z | z
    · refine (if_pos z).mpr ?_
      have ij : ∀ y ∈ A ++ a :: B, f y = f a → y = a := fun y hy e => fi y (iA y hy) a ma e
      have li : List.idxOf (f a) ((A ++ a :: B).map f) = A.length := by rw [idx_map ij]; exact idx_mid s.naA
      have tk := insG_map (b := b) ij
      rw [insG_mid s.naA] at tk
      unfold insG at tk
      rw [li] at tk
      rw [dl, li, show ((A.length : Int) + 1).toNat = A.length + 1 by omega, ← tk]
      refine ⟨f b, gl, List.mem_map.mpr ⟨a, by simp, rfl⟩, ⟨?_, by omega, by omega⟩, lmoved_end (u := o.up) (l := A ++ a :: b :: B) fi (fun x => ?_) h40 ?_⟩
      · have := sizeL (n := 41) (by omega)
        rw [List.length_map]; omega
      · rw [s.mem, s.lo]; simp; grind
      · have e : (o.stK k).plc = pl o.up (A ++ a :: b :: B) := by
          rw [z]
          show o.stU.plc = _
          rw [s.stU]; rfl
        rw [← e]; exact q
    · refine (if_neg fun y => kul (z.symm.trans y)).mpr ?_
      have ij : ∀ y ∈ C ++ b :: D, f y = f b → y = b := fun y hy e => fi y (iC y hy) b mb e
      have li : List.idxOf (f b) ((C ++ b :: D).map f) = C.length := by rw [idx_map ij]; exact idx_mid s.nbC
      have tk := insG_map (b := a) ij
      rw [insG_mid s.nbC] at tk
      unfold insG at tk
      rw [li] at tk
      rw [du, li, show ((C.length : Int) + 1).toNat = C.length + 1 by omega, ← tk]
      have sub : ∀ x, x ∈ C ++ b :: a :: D ↔ x ∈ o.up := fun x => by rw [s.up]; simp; grind
      refine ⟨f a, gu, List.mem_map.mpr ⟨b, by simp, rfl⟩, ⟨?_, by omega, by omega⟩, lmoved_end (u := C ++ b :: a :: D) (l := o.lo) (fun x hx y hy => fi x ((sub x).mp hx) y ((sub y).mp hy)) (fun x => ?_) ?_ ?_⟩
      · have := sizeL (n := 41) (by omega)
        rw [List.length_map]; omega
      · rw [sub]; exact s.mem.symm
      · have : (C ++ b :: a :: D).length = o.up.length := by rw [s.up]; simp
        omega
      · have e : (o.stK k).plc = pl (C ++ b :: a :: D) o.lo := by
          rw [z]
          show (if KL = KU then _ else _ : Od).plc = _
          rw [if_neg kul, s.stL]; rfl
        rw [← e]; exact q
theorem plc_inj_l {o h : Od} (ok : okOrd o) (ok' : okOrd h) (eu : h.up = o.up) (e : h.plc = o.plc) : h = o := by
  unfold Od.plc at e
  rw [eu, List.map_inj_left] at e
  have el : h.lo.length = o.lo.length := by rw [len_eq ok, len_eq ok', eu]
  have : h.lo = o.lo := by
    refine List.ext_getElem? fun m => ?_
    by_cases hm : m < o.lo.length
    · have g := List.getElem?_eq_getElem hm
      have ym : o.lo[m] ∈ o.up := ok.pm.mem_iff.mp (List.getElem_mem hm)
      have e1 := e _ ym
      have e2 := nd_idx ok.lo.nd g
      have e3 := idx_get (l := h.lo) (x := o.lo[m]) (idx_mem ok' (by rw [eu]; exact ym))
      rw [show h.lo.idxOf o.lo[m] = m by omega] at e3
      rw [e3, g]
    · rw [List.getElem?_eq_none (by omega), List.getElem?_eq_none (by omega)]
  cases h; cases o
  simp only at eu this
  rw [eu, this]
theorem plc_inj_u {o h : Od} (ok : okOrd o) (ok' : okOrd h) (el : h.lo = o.lo) (e : h.plc = o.plc) : h = o := by
  unfold Od.plc at e
  rw [el] at e
  have lu : h.up.length = o.up.length := by rw [← len_eq ok, ← len_eq ok', el]
  have : h.up = o.up := by
    refine List.ext_getElem? fun m => ?_
    by_cases hm : m < o.up.length
    · have e1 := congrArg (fun l : List Int => l[m]?) e
      simp only [List.getElem?_map] at e1
      have g := List.getElem?_eq_getElem hm
      have g' := List.getElem?_eq_getElem (l := h.up) (i := m) (by omega)
      rw [g, g'] at e1
      have e2 := Option.some.inj e1
      have e3 : o.lo.idxOf h.up[m] = o.lo.idxOf o.up[m] := by
        have : (o.lo.idxOf h.up[m] : Int) = (o.lo.idxOf o.up[m] : Int) := e2
        omega
      have m1 := idx_get (idx_mem ok (List.getElem_mem hm))
      have m2 := idx_get (l := o.lo) (x := h.up[m]) (by rw [← el]; exact idx_mem ok' (List.getElem_mem _))
      rw [e3, m1] at m2
      rw [g, g', Option.some.inj m2]
    · rw [List.getElem?_eq_none (by omega), List.getElem?_eq_none (by omega)]
  cases h; cases o
  simp only at el this
  rw [el, this]
theorem it_up (o : Od) : ∀ j, (o.it KU j).up = o.up
  | 0 => rfl
  | j + 1 => by
    show ((o.it KU j).stK KU).up = _
    rw [show (o.it KU j).stK KU = (o.it KU j).stU from if_pos rfl]
    exact it_up o j
theorem it_lo (o : Od) (j : Nat) : (o.it KL j).lo = o.lo := by rw [it_inv]; exact it_up o.inv j
theorem turns (r : Rch o o) (hk : k = KU ∨ k = KL) : ∃ T : Nat, 1 ≤ T ∧ T ≤ 40 ∧ (k = KU → atI o.plc (-1) = some ((o.plc.length : Int) - 1 - T)) ∧ (k = KL → ((o.plc.length : Int) - 1) ∈ o.plc ∧ (List.idxOf ((o.plc.length : Int) - 1) o.plc : Int) = (o.plc.length : Int) - 1 - T) ∧
    ∀ j, 1 ≤ j → j ≤ T → ((o.it k j).plc = o.plc ↔ j = T) := by
  obtain ⟨A, B, C, D, a, b, s⟩ := spl r.ok r.nc
  have h40 := r.ok.up.n40
  have P := s.pls
  have hN := P.len
  have l1 : o.up.length = C.length + (D.length + 1 + 1) := by rw [s.up]; simp
  have pn := plc_len o
  rcases hk with z | z
  · refine ⟨B.length + 1, by omega, by omega, fun _ => ?_, fun y => absurd (y.symm.trans z) kul, fun j j1 jT => ?_⟩
    · rw [P.last']
      congr 1; omega
    · rw [z, ← s.it_eq j1 jT]
      exact ⟨fun e => plc_inj_l r.ok (r.it KU j).ok (it_up o j) e, fun e => by rw [e]⟩
  · refine ⟨D.length + 1, by omega, by omega, fun y => absurd (z.symm.trans y) kul, fun _ => ?_, fun j j1 jT => ?_⟩
    · have e : (o.plc.length : Int) - 1 = ((A.length + B.length + 1 : Nat) : Int) := by omega
      rw [e, P.idx]
      refine ⟨by rw [P.eq]; simp, ?_⟩
      have : (pl C o.lo).length = C.length := List.length_map ..
      omega
    · rw [z, ← s.inv.it_eq j1 jT]
      refine ⟨fun e => ?_, fun e => ?_⟩
      · have := plc_inj_u r.ok (r.it KL j).ok (it_lo o j) e
        rw [it_inv] at this
        exact congrArg Od.inv this
      · rw [it_inv, e]; rfl
theorem w_turns_back {Q : Bool → Nat → Prop} (r : Rch o o) (hk : k = KU ∨ k = KL) (q : Q true c) : (m__law_turns_back (o.plc, k, ())).wp c Q X := by
  obtain ⟨T, t1, t40, tU, tL, te⟩ := turns r hk
  have h40 := r.ok.up.n40
  have pn := plc_len o
  simp only [m__law_turns_back, b__law_turns_back, M.none_wp, M.bind_wp, M.ret_wp, M.need_wp, M.the_wp, M.ifb_wp, M.anyOf_wp, M.still_wp, M.roll_wp, M.pick_wp, M.thn_wp, M.thn_nx, M.thn_rt, M.thn_bk, M.thn_ct, M.fin_wp, M.fin_rt, M.finN_wp, M.finN_rt, M.finN_nx, M.FK_nx, M.FK_ct, M.FK_bk, M.FK_rt, decide_eq_true_eq, if_true, if_false, Bool.false_eq_true, Bool.not_eq_true', decide_eq_false_iff_not, Bool.not_true, Bool.not_false, ite_not]
  have hkk := hk
  rcases hk with z | z
  · refine (if_pos z).mpr ⟨_, tU z, ?_⟩
    rw [show (o.plc.length : Int) - 1 - ((o.plc.length : Int) - 1 - T) = T by omega]
    refine ⟨by omega, M.forM_inv (fun i ρ d => d = c ∧ ρ.1 = o.plc ∧ ρ.2.1 = k ∧ ρ.2.2.1 = (T : Int) ∧ ρ.2.2.2.1 = (o.it k i).plc) ⟨rfl, rfl, rfl, rfl, rfl⟩ ?_ ?_⟩
    · rintro i a ρ d hi ⟨rfl, e1, e2, e3, e4⟩
      obtain ⟨ea, hi⟩ := rng_get hi
      simp only [M.none_wp, M.bind_wp, M.ret_wp, M.need_wp, M.the_wp, M.ifb_wp, M.anyOf_wp, M.still_wp, M.roll_wp, M.pick_wp, M.thn_wp, M.thn_nx, M.thn_rt, M.thn_bk, M.thn_ct, M.fin_wp, M.fin_rt, M.finN_wp, M.finN_rt, M.finN_nx, M.FK_nx, M.FK_ct, M.FK_bk, M.FK_rt, decide_eq_true_eq, if_true, if_false, Bool.false_eq_true, Bool.not_eq_true', decide_eq_false_iff_not, Bool.not_true, Bool.not_false, ite_not, e1, e2, e3, e4]
      refine w_moved (r.it k i).ok (r.it k i).nc hkk ⟨⟨lay_intT _, lay_intT _⟩, ?_⟩
      rw [eqv_ints]
      have e5 : decide (((o.it k i).stK k).plc = o.plc) = decide (a = (T : Int) - 1) := by
        have := te (i + 1) (by omega) (by omega)
        have e6 : ((o.it k i).stK k).plc = o.plc ↔ i + 1 = T := this
        by_cases y : i + 1 = T
        · rw [decide_eq_true (e6.mpr y), decide_eq_true (by omega)]
        · rw [decide_eq_false (fun w => y (e6.mp w)), decide_eq_false (by omega)]
      rw [e5]
      refine (if_pos rfl).mpr ?_
      exact ⟨trivial, trivial, trivial, trivial, rfl⟩
    · rintro ρ d ⟨rfl, e1, e2, e3, e4⟩
      simp only [M.none_wp, M.bind_wp, M.ret_wp, M.need_wp, M.the_wp, M.ifb_wp, M.anyOf_wp, M.still_wp, M.roll_wp, M.pick_wp, M.thn_wp, M.thn_nx, M.thn_rt, M.thn_bk, M.thn_ct, M.fin_wp, M.fin_rt, M.finN_wp, M.finN_rt, M.finN_nx, M.FK_nx, M.FK_ct, M.FK_bk, M.FK_rt, decide_eq_true_eq, if_true, if_false, Bool.false_eq_true, Bool.not_eq_true', decide_eq_false_iff_not, Bool.not_true, Bool.not_false, ite_not, e3]
      rw [decide_eq_true (by omega)]
      exact q
  · refine (if_neg fun y => kul (z.symm.trans y)).mpr ⟨(tL z).1, ?_⟩
    rw [(tL z).2, show (o.plc.length : Int) - 1 - ((o.plc.length : Int) - 1 - T) = T by omega]
    refine ⟨by omega, M.forM_inv (fun i ρ d => d = c ∧ ρ.1 = o.plc ∧ ρ.2.1 = k ∧ ρ.2.2.1 = (T : Int) ∧ ρ.2.2.2.1 = (o.it k i).plc) ⟨rfl, rfl, rfl, rfl, rfl⟩ ?_ ?_⟩
    · rintro i a ρ d hi ⟨rfl, e1, e2, e3, e4⟩
      obtain ⟨ea, hi⟩ := rng_get hi
      simp only [M.none_wp, M.bind_wp, M.ret_wp, M.need_wp, M.the_wp, M.ifb_wp, M.anyOf_wp, M.still_wp, M.roll_wp, M.pick_wp, M.thn_wp, M.thn_nx, M.thn_rt, M.thn_bk, M.thn_ct, M.fin_wp, M.fin_rt, M.finN_wp, M.finN_rt, M.finN_nx, M.FK_nx, M.FK_ct, M.FK_bk, M.FK_rt, decide_eq_true_eq, if_true, if_false, Bool.false_eq_true, Bool.not_eq_true', decide_eq_false_iff_not, Bool.not_true, Bool.not_false, ite_not, e1, e2, e3, e4]
      refine w_moved (r.it k i).ok (r.it k i).nc hkk ⟨⟨lay_intT _, lay_intT _⟩, ?_⟩
      rw [eqv_ints]
      have e5 : decide (((o.it k i).stK k).plc = o.plc) = decide (a = (T : Int) - 1) := by
        have := te (i + 1) (by omega) (by omega)
        have e6 : ((o.it k i).stK k).plc = o.plc ↔ i + 1 = T := this
        by_cases y : i + 1 = T
        · rw [decide_eq_true (e6.mpr y), decide_eq_true (by omega)]
        · rw [decide_eq_false (fun w => y (e6.mp w)), decide_eq_false (by omega)]
      rw [e5]
      refine (if_pos rfl).mpr ?_
      exact ⟨trivial, trivial, trivial, trivial, rfl⟩
    · rintro ρ d ⟨rfl, e1, e2, e3, e4⟩
      simp only [M.none_wp, M.bind_wp, M.ret_wp, M.need_wp, M.the_wp, M.ifb_wp, M.anyOf_wp, M.still_wp, M.roll_wp, M.pick_wp, M.thn_wp, M.thn_nx, M.thn_rt, M.thn_bk, M.thn_ct, M.fin_wp, M.fin_rt, M.finN_wp, M.finN_rt, M.finN_nx, M.FK_nx, M.FK_ct, M.FK_bk, M.FK_rt, decide_eq_true_eq, if_true, if_false, Bool.false_eq_true, Bool.not_eq_true', decide_eq_false_iff_not, Bool.not_true, Bool.not_false, ite_not, e3]
      rw [decide_eq_true (by omega)]
      exact q
theorem w_walk_drawn {n : Int} {Q : List Str → Nat → Prop} (hc : c < 9000) (n0 : 0 ≤ n) (n40 : n ≤ 40) (q : ∀ d e, UL d → d.length = n.toNat → e ≤ c + 40 → Q d e) : (m__law_walk_drawn (n, ())).wp c Q X := by
  simp only [m__law_walk_drawn, b__law_walk_drawn, M.none_wp, M.bind_wp, M.ret_wp, M.need_wp, M.the_wp, M.ifb_wp, M.anyOf_wp, M.still_wp, M.roll_wp, M.pick_wp, M.thn_wp, M.thn_nx, M.thn_rt, M.thn_bk, M.thn_ct, M.fin_wp, M.fin_rt, M.finN_wp, M.finN_rt, M.finN_nx, M.FK_nx, M.FK_ct, M.FK_bk, M.FK_rt, decide_eq_true_eq, if_true, if_false, Bool.false_eq_true, Bool.not_eq_true', decide_eq_false_iff_not, Bool.not_true, Bool.not_false, ite_not]
  refine ⟨by omega, by rw [rng_len]; omega, M.lcM_inv (fun i ys e => e ≤ c + i ∧ UL ys ∧ ys.length = i) ⟨Nat.le_refl _, (fun x hx => by cases hx), rfl⟩ ?_ ?_⟩
  · rintro i a ys e hi ⟨he, hu, hl⟩
    obtain ⟨_, hi⟩ := rng_get hi
    simp only [M.none_wp, M.bind_wp, M.ret_wp, M.need_wp, M.the_wp, M.ifb_wp, M.anyOf_wp, M.still_wp, M.roll_wp, M.pick_wp, M.thn_wp, M.thn_nx, M.thn_rt, M.thn_bk, M.thn_ct, M.fin_wp, M.fin_rt, M.finN_wp, M.finN_rt, M.finN_nx, M.FK_nx, M.FK_ct, M.FK_bk, M.FK_rt, decide_eq_true_eq, if_true, if_false, Bool.false_eq_true, Bool.not_eq_true', decide_eq_false_iff_not, Bool.not_true, Bool.not_false, ite_not]
    refine ⟨by omega, by decide, by decide, fun x hx => ⟨by omega, fun y hy => ?_, by simp [hl]⟩⟩
    rcases List.mem_append.mp hy with z | z
    · exact hu y z
    · rw [Option.toList_some, List.mem_singleton] at z
      rw [z]
      rcases List.mem_cons.mp hx with z | z
      · exact .inr z
      · exact .inl (List.mem_singleton.mp z)
  · rintro ys e ⟨he, hu, hl⟩
    rw [rng_len] at he hl
    exact q ys e hu (by omega) (by omega)
end
end PF2

set_option Elab.async false
set_option linter.all false
set_option maxRecDepth 100000
set_option maxHeartbeats 400000
set_option exponentiation.threshold 20000
namespace PF2
open PF PySem PySem.Spec PyProof.Rows L2 SlX TL
theorem dget_zip {α β : Type} [DecidableEq α] : ∀ {l : List α} {m : List β} {x : α} {y : β}, l.Nodup → l.length = m.length → x ∈ l → m[l.idxOf x]? = some y → dget (l.zip m) x = some y
  | [], _, _, _, _, _, h, _ => by cases h
  | a :: l, [], _, _, _, h, _, _ => by cases h
  | a :: l, b :: m, x, y, nd, hl, hx, e => by
    rw [List.zip_cons_cons]
    by_cases z : a = x
    · subst z
      rw [List.idxOf_cons_self] at e
      unfold dget
      rw [List.find?_cons_of_pos (by simp)]
      simpa using e
    · have hx' : x ∈ l := by
        rcases List.mem_cons.mp hx with w | w
        · exact absurd w.symm z
        · exact w
      rw [show (a :: l).idxOf x = l.idxOf x + 1 by rw [List.idxOf_cons, show (a == x) = false from beq_eq_false_iff_ne.mpr z]; rfl, List.getElem?_cons_succ] at e
      have ih := dget_zip (List.nodup_cons.mp nd).2 (by simpa using hl) hx' e
      unfold dget at ih ⊢
      rw [List.find?_cons_of_neg (by simpa using z)]
      exact ih
/-- an order with other names -/
def Od.ren (o : Od) (f : Str → Str) : Od := ⟨o.up.map f, o.lo.map f⟩
section
variable {c : Nat} {X : Er → Prop} {o : Od} {k : Str} {f : Str → Str}
theorem ren_spl {A B C D : List Str} {a b : Str} (s : Spl o A B C D a b) (fi : ∀ x ∈ o.up, ∀ y ∈ o.up, f x = f y → x = y) : Spl (o.ren f) (A.map f) (B.map f) (C.map f) (D.map f) (f a) (f b) := by
  refine ⟨?_, ?_, nd_map fi s.nu, nd_map (fun x hx y hy => fi x (s.mem.mpr hx) y (s.mem.mpr hy)) s.nl, s.pm.map f⟩
  · show o.up.map f = _
    rw [s.up]; simp
  · show o.lo.map f = _
    rw [s.lo]; simp
theorem ren_st (h : okOrd o) (nc : o.NoCut) (fi : ∀ x ∈ o.up, ∀ y ∈ o.up, f x = f y → x = y) (k : Str) : (o.ren f).stK k = (o.stK k).ren f := by
  obtain ⟨A, B, C, D, a, b, s⟩ := spl h nc
  have s' := ren_spl s fi
  unfold Od.stK
  by_cases z : k = KU
  · rw [if_pos z, if_pos z, s.stU, s'.stU]
    unfold Od.ren
    simp
  · rw [if_neg z, if_neg z, s.stL, s'.stL]
    unfold Od.ren
    simp
theorem far_ren : ∀ (d : List Str) {h : Od}, Rch o h → (∀ x ∈ o.up, ∀ y ∈ o.up, f x = f y → x = y) → (h.ren f).far d = (h.far d).ren f
  | [], _, _, _ => rfl
  | k :: d, h, r, fi => by
    show ((h.ren f).stK k).far d = ((h.stK k).far d).ren f
    rw [ren_st r.ok r.nc (fun x hx y hy => fi x (r.pm.mem_iff.mp hx) y (r.pm.mem_iff.mp hy)) k]
    exact far_ren d (r.K k) fi
theorem rch_far : ∀ (d : List Str) {h : Od}, Rch o h → Rch o (h.far d)
  | [], _, r => r
  | k :: d, _, r => rch_far d (r.K k)
theorem far_app : ∀ (d e : List Str) (h : Od), h.far (d ++ e) = (h.far d).far e
  | [], _, _ => rfl
  | k :: d, e, h => far_app d e (h.stK k)
theorem ren_nc (h : okOrd o) (nc : o.NoCut) (fi : ∀ x ∈ o.up, ∀ y ∈ o.up, f x = f y → x = y) : (o.ren f).NoCut := by
  refine ⟨by show 2 ≤ (o.up.map f).length; rw [List.length_map]; exact nc.1, fun i h1 h2 k => ?_⟩
  have h2 : i < (o.up.map f).length := h2
  rw [List.length_map] at h2
  refine nc.2 i h1 h2 fun x hx => ?_
  have k2 := k (f x) (by show f x ∈ (o.up.map f).take i; rw [← List.map_take]; exact List.mem_map.mpr ⟨x, hx, rfl⟩)
  have k2 : f x ∈ (o.lo.map f).take i := k2
  rw [← List.map_take] at k2
  obtain ⟨y, hy, ey⟩ := List.mem_map.mp k2
  have := fi y (h.pm.mem_iff.mp (List.mem_of_mem_take hy)) x (List.mem_of_mem_take hx) ey
  exact this ▸ hy
theorem w_rule {Q : List Int → Nat → Prop} (h : okOrd o) (nc : o.NoCut) (hk : k = KU ∨ k = KL) (q : Q (o.stK k).plc c) : (m__law_by_rule (o.plc, k, ())).wp c Q X := by
  obtain ⟨A, B, C, D, a, b, s⟩ := spl h nc
  refine w_by_rule s.pls (by rw [plc_len]; exact h.up.n40) ?_
  rw [← s.plc_st hk]; exact q
theorem w_right {Q : Bool → Nat → Prop} (hc : c < 7000) (q : ∀ d, d ≤ c + 900 → Q true d) : (m__law_walk_right ()).wp c Q X := by
  simp only [m__law_walk_right, b__law_walk_right, M.none_wp, M.bind_wp, M.ret_wp, M.need_wp, M.the_wp, M.ifb_wp, M.anyOf_wp, M.still_wp, M.roll_wp, M.pick_wp, M.thn_wp, M.thn_nx, M.thn_rt, M.thn_bk, M.thn_ct, M.fin_wp, M.fin_rt, M.finN_wp, M.finN_rt, M.finN_nx, M.FK_nx, M.FK_ct, M.FK_bk, M.FK_rt, decide_eq_true_eq, if_true, if_false, Bool.false_eq_true, Bool.not_eq_true', decide_eq_false_iff_not, Bool.not_true, Bool.not_false, ite_not]
  refine ⟨by omega, by decide, bd_sm (by decide) (by decide), fun r r0 r7 => w_rows_drawn (by omega) (by omega) (by omega) fun o d hN h nc hd => ⟨h, by omega, by decide, bd_sm (by decide) (by decide), fun r2 s0 s13 => w_walk_drawn (by omega) s0 (by omega) fun w e hu hw he => ?_⟩⟩
  have n8 := hN.n8
  have n1 := hN.n1
  refine ⟨by show o.up.length < 64; omega, fun ys ⟨yp, _⟩ => w_names_drawn (by omega) (by show (1 : Int) ≤ (o.up.length : Int); omega) (by show (o.up.length : Int) ≤ 8; omega) fun zs e2 hz lz he2 => ?_⟩
  have lz : zs.length = o.up.length := lz
  have ly : ys.length = o.up.length := yp.length_eq
  have ynd : ys.Nodup := yp.nodup_iff.mpr h.up.nd
  have rr : Rch o o := ⟨h, nc, List.Perm.refl _⟩
  -- the names
  let f : Str → Str := fun x => (zs[ys.idxOf x]?).getD ""
  have fx : ∀ x ∈ ys, zs[ys.idxOf x]? = some (f x) := fun x hx => by
    have := List.idxOf_lt_length_iff.mpr hx
    show _ = some ((zs[ys.idxOf x]?).getD "")
    rw [List.getElem?_eq_getElem (by omega)]; rfl
  have fm : ys.map f = zs := by
    refine List.ext_getElem? fun i => ?_
    rw [List.getElem?_map]
    by_cases hi : i < ys.length
    · have g := List.getElem?_eq_getElem hi
      have k := fx _ (List.getElem_mem hi)
      rw [nd_idx ynd g] at k
      rw [g, k]; rfl
    · rw [List.getElem?_eq_none (by omega), List.getElem?_eq_none (by omega)]; rfl
  have zg : ∀ x ∈ o.up, dget (ys.zip zs) x = some (f x) := fun x hx => dget_zip ynd (by omega) (yp.mem_iff.mpr hx) (fx x (yp.mem_iff.mpr hx))
  have zk : (ys.zip zs).map (·.1) = ys := List.map_fst_zip (l₁ := ys) (l₂ := zs) (by omega)
  have hr : okRow (o.up.map f) := okRow_perm hz.row (by rw [← fm]; exact (yp.map f).symm)
  have fi : ∀ x ∈ o.up, ∀ y ∈ o.up, f x = f y → x = y := fun x hx y hy e => by
    have hx := yp.mem_iff.mpr hx
    have hy := yp.mem_iff.mpr hy
    have e1 := nd_idx hz.nd (fx x hx)
    have e2 := nd_idx hz.nd (fx y hy)
    rw [e, e2] at e1
    have g1 := idx_get hx
    have g2 := idx_get hy
    rw [← e1, g2] at g1
    cases g1; rfl
  clear_value f
  refine M.forM_inv (fun i ρ d => d = e2 ∧ ρ.2.1 = o.up ∧ ρ.2.2.1 = o.lo ∧ ρ.2.2.2.1 = o ∧ ρ.2.2.2.2.1 = w ∧ ρ.2.2.2.2.2.1 = (ys.zip zs).take i) ⟨rfl, rfl, rfl, rfl, rfl, by simp⟩ ?_ ?_
  · rintro i a ρ d hi ⟨rfl, e1, e2, e3, e4, e5⟩
    simp only [M.none_wp, M.bind_wp, M.ret_wp, M.need_wp, M.the_wp, M.ifb_wp, M.anyOf_wp, M.still_wp, M.roll_wp, M.pick_wp, M.thn_wp, M.thn_nx, M.thn_rt, M.thn_bk, M.thn_ct, M.fin_wp, M.fin_rt, M.finN_wp, M.finN_rt, M.finN_nx, M.FK_nx, M.FK_ct, M.FK_bk, M.FK_rt, decide_eq_true_eq, if_true, if_false, Bool.false_eq_true, Bool.not_eq_true', decide_eq_false_iff_not, Bool.not_true, Bool.not_false, ite_not]
    unfold zip2 at hi
    rw [List.getElem?_map] at hi
    obtain ⟨p, hp, ep⟩ := Option.map_eq_some_iff.mp hi
    subst ep
    have il := (List.getElem?_eq_some_iff.mp hp).1
    have zl : (ys.zip zs).length = o.up.length := by rw [List.length_zip]; omega
    refine ⟨?_, trivial, e1, e2, e3, e4, ?_⟩
    · have := sizeL (n := 41) (by omega)
      rw [e5, List.length_take]; omega
    · show dput ρ.2.2.2.2.2.1 p.1 p.2 = _
      rw [e5, dput_new, List.take_succ, hp]; rfl
      intro b hb eb
      have znd : ((ys.zip zs).map (·.1)).Nodup := by rw [zk]; exact ynd
      obtain ⟨j, hj⟩ := List.getElem?_of_mem hb
      have jl := (List.getElem?_eq_some_iff.mp hj).1
      rw [List.length_take] at jl
      rw [List.getElem?_take_of_lt (by omega)] at hj
      have g1 : ((ys.zip zs).map (·.1))[j]? = some b.1 := by rw [List.getElem?_map, hj]; rfl
      have g2 : ((ys.zip zs).map (·.1))[i]? = some p.1 := by rw [List.getElem?_map, hp]; rfl
      have g3 := nd_idx znd g1
      have g4 := nd_idx znd g2
      rw [eb] at g3
      omega
  · rintro ρ d ⟨rfl, e1, e2, e3, e4, e5⟩
    have e5 : ρ.2.2.2.2.2.1 = ys.zip zs := by
      rw [e5]
      exact List.take_of_length_le (by unfold zip2; rw [List.length_map]; exact Nat.le_refl _)
    simp only [M.none_wp, M.bind_wp, M.ret_wp, M.need_wp, M.the_wp, M.ifb_wp, M.anyOf_wp, M.still_wp, M.roll_wp, M.pick_wp, M.thn_wp, M.thn_nx, M.thn_rt, M.thn_bk, M.thn_ct, M.fin_wp, M.fin_rt, M.finN_wp, M.finN_rt, M.finN_nx, M.FK_nx, M.FK_ct, M.FK_bk, M.FK_rt, decide_eq_true_eq, if_true, if_false, Bool.false_eq_true, Bool.not_eq_true', decide_eq_false_iff_not, Bool.not_true, Bool.not_false, ite_not, e1, e2, e3, e4, e5]
    refine w_places_of h (w_places ⟨⟨lay_intT _, lay_intT _⟩, ?_⟩)
    rw [eqv_ints, decide_eq_true rfl]
    refine (if_neg (by simp)).mpr (w_turns_back rr (.inl rfl) ((if_neg (by simp)).mpr (w_turns_back rr (.inr rfl) ((if_neg (by simp)).mpr ?_))))
    refine M.forM_inv (fun i ρ d' => d' = d ∧ ρ.2.2.2.1 = o ∧ ρ.2.2.2.2.1 = w ∧ ρ.2.2.2.2.2.1 = ys.zip zs ∧ ρ.2.2.2.2.2.2.2.2.1 = (o.far (w.take i)).plc) ⟨rfl, rfl, rfl, rfl, rfl⟩ ?_ ?_
    · rintro i a ρ d hi ⟨rfl, e1, e2, e3, e4⟩
      obtain ⟨a1, a2⟩ := enum0_get hi
      have il := (List.getElem?_eq_some_iff.mp a2).1
      have ka := hu.get a2
      have rf := rch_far (w.take i) rr
      have fe : o.far (w.take (i + 1)) = (o.far (w.take i)).stK a.2.1 := by
        rw [List.take_succ, a2, far_app]; rfl
      simp only [M.none_wp, M.bind_wp, M.ret_wp, M.need_wp, M.the_wp, M.ifb_wp, M.anyOf_wp, M.still_wp, M.roll_wp, M.pick_wp, M.thn_wp, M.thn_nx, M.thn_rt, M.thn_bk, M.thn_ct, M.fin_wp, M.fin_rt, M.finN_wp, M.finN_rt, M.finN_nx, M.FK_nx, M.FK_ct, M.FK_bk, M.FK_rt, decide_eq_true_eq, if_true, if_false, Bool.false_eq_true, Bool.not_eq_true', decide_eq_false_iff_not, Bool.not_true, Bool.not_false, ite_not, e1, e2, e3, e4, a1]
      refine w_lmoved rf.ok rf.nc ka (w_moved rf.ok rf.nc ka ⟨⟨lay_intT _, lay_intT _⟩, ?_⟩)
      rw [eqv_ints, decide_eq_true rfl]
      refine (if_neg (by simp)).mpr (w_rule rf.ok rf.nc ka ⟨⟨lay_intT _, lay_intT _⟩, ?_⟩)
      rw [eqv_ints, decide_eq_true rfl]
      refine (if_neg (by simp)).mpr ?_
      rw [show ((i : Int) + 1) = ((i + 1 : Nat) : Int) by omega, cutL_to _ _ (by omega)]
      refine w_order_behind rr (fun x hx => hu x (List.mem_of_mem_take hx)) (by rw [List.length_take]; omega) (w_places ⟨⟨lay_intT _, lay_intT _⟩, ?_⟩)
      rw [fe, eqv_ints, decide_eq_true rfl]
      refine (if_neg (by simp)).mpr ?_
      exact ⟨trivial, trivial, trivial, trivial, rfl⟩
    · rintro ρ d' ⟨rfl, e1, e2, e3, e4⟩
      simp only [M.none_wp, M.bind_wp, M.ret_wp, M.need_wp, M.the_wp, M.ifb_wp, M.anyOf_wp, M.still_wp, M.roll_wp, M.pick_wp, M.thn_wp, M.thn_nx, M.thn_rt, M.thn_bk, M.thn_ct, M.fin_wp, M.fin_rt, M.finN_wp, M.finN_rt, M.finN_nx, M.FK_nx, M.FK_ct, M.FK_bk, M.FK_rt, decide_eq_true_eq, if_true, if_false, Bool.false_eq_true, Bool.not_eq_true', decide_eq_false_iff_not, Bool.not_true, Bool.not_false, ite_not, e1, e2, e3]
      have rf := rch_far w rr
      have okF : okOrd (o.ren f) := ⟨hr, okRow_perm hr (h.pm.map f), h.pm.map f⟩
      have rF : Rch (o.ren f) (o.ren f) := ⟨okF, ren_nc h nc fi, List.Perm.refl _⟩
      refine w_order_behind rr hu (by omega) (w_is_whole ?_)
      rw [whole_nc rf.ok rf.nc]
      refine (if_pos rfl).mpr (w_renamedP (f := f) h (by rw [zk]; exact yp) zg hr ?_)
      refine w_order_behind (o := o.ren f) rF hu (by omega) ?_
      have hrf : okRow ((o.far w).up.map f) := okRow_perm hr (rf.pm.map f)
      refine w_renamedP (f := f) rf.ok (by rw [zk]; exact yp.trans rf.pm.symm) (fun x hx => zg x (rf.pm.mem_iff.mp hx)) hrf ?_
      have ee : (o.ren f).far w = ⟨(o.far w).up.map f, (o.far w).lo.map f⟩ := far_ren w rr fi
      rw [ee]
      have okG : okOrd ⟨(o.far w).up.map f, (o.far w).lo.map f⟩ := by rw [← ee]; exact (rch_far w rF).ok
      refine w_eq okG okG ?_
      rw [decide_eq_true rfl]
      exact q _ (by omega)
def ncB (o : Od) : Bool := decide (2 ≤ o.up.length) && (List.range o.up.length).all fun i => i == 0 || !(o.up.take i).all fun x => decide (x ∈ o.lo.take i)
theorem ncB_ok (h : ncB o = true) : o.NoCut := by
  unfold ncB at h
  rw [Bool.and_eq_true, decide_eq_true_eq, List.all_eq_true] at h
  refine ⟨h.1, fun i h1 h2 k => ?_⟩
  have := h.2 i (List.mem_range.mpr h2)
  rw [Bool.or_eq_true, Bool.not_eq_true'] at this
  rcases this with z | z
  · have : i = 0 := by simpa using z
    omega
  · have y : ((o.up.take i).all fun x => decide (x ∈ o.lo.take i)) = true := List.all_eq_true.mpr fun x hx => decide_eq_true (k x hx)
    rw [y] at z; cases z
def p3 : Od := ⟨["a", "b", "c"], ["c", "b", "a"]⟩
def p2 : Od := ⟨["a", "b"], ["b", "a"]⟩
theorem p3_r : Rch p3 p3 := ⟨ordB_ok (by decide +kernel), ncB_ok (by decide +kernel), List.Perm.refl _⟩
theorem p2_r : Rch p2 p2 := ⟨ordB_ok (by decide +kernel), ncB_ok (by decide +kernel), List.Perm.refl _⟩
theorem w_mv_em {Q : List Int → Nat → Prop} {p p' : List Int} {m} (em : m_moved (p, k, ()) = m) (r : Rch o o) (ep : o.plc = p) (hk : k = KU ∨ k = KL) (er : (o.stK k).plc = p') (q : Q p' c) : m.wp c Q X := by
  rw [← em, ← ep]
  refine w_moved r.ok r.nc hk ?_
  rw [er]; exact q
theorem w_law {Q : Bool → Nat → Prop} {X : Er → Prop} {m : M Bool} (em : m_law = m) (q : Q true 0) : m.wp 0 Q X := by
  rw [<- em]
  simp only [m_law, b_law, M.none_wp, M.bind_wp, M.ret_wp, M.need_wp, M.the_wp, M.ifb_wp, M.anyOf_wp, M.still_wp, M.roll_wp, M.pick_wp, M.thn_wp, M.thn_nx, M.thn_rt, M.thn_bk, M.thn_ct, M.fin_wp, M.fin_rt, M.finN_wp, M.finN_rt, M.finN_nx, M.FK_nx, M.FK_ct, M.FK_bk, M.FK_rt, decide_eq_true_eq, if_true, if_false, Bool.false_eq_true, Bool.not_eq_true', decide_eq_false_iff_not, Bool.not_true, Bool.not_false, ite_not]
  refine ⟨sizeL (by decide), ?_⟩
  generalize e1 : m_moved ([2, 1, 0], Str.ofString "upper", ()) = m1
  refine w_mv_em (p' := [1, 2, 0]) e1 p3_r (by decide +kernel) (.inl rfl) (by decide +kernel) ⟨sizeL (by decide), ?_⟩
  generalize e2 : m_moved ([2, 1, 0], Str.ofString "lower", ()) = m2
  refine w_mv_em (p' := [2, 0, 1]) e2 p3_r (by decide +kernel) (.inr rfl) (by decide +kernel) ⟨sizeL (by decide), ?_⟩
  generalize e3 : m_moved ([1, 0], Str.ofString "upper", ()) = m3
  refine w_mv_em (p' := [1, 0]) e3 p2_r (by decide +kernel) (.inl rfl) (by decide +kernel) ?_
  have ll : (PyData.list (List.map (fun xs => PyData.tuple (List.map PyData.int xs)) [[1, 2, 0], [2, 0, 1], [1, 0]])).canLay0 = true := lay_list (lay_map fun a _ => lay_intT a)
  refine ⟨⟨ll, ll⟩, ?_⟩
  rw [eqv_same ll]
  exact q
end
end PF2

set_option Elab.async false
set_option linter.all false
set_option maxRecDepth 100000
set_option maxHeartbeats 400000
set_option exponentiation.threshold 20000
namespace PF2
open PF PySem PySem.Spec PyProof.Rows L2 SlX
section
variable {P : Program} {w : World} {K : PySem.W.Frag} {mg : Str → Option Value} {base : Heap} {f CO : Addr} {fd : FuncData}

theorem tail_run {Γ : Type} {E : EV Γ} {ρ0 : Γ} {t : TS} {mb : Γ → M (Ct Unit Unit Bool)} (hb : SS md0 E eNil eNil rBl t mb) {σ : L2.St} {H : Hp} {D : Ends} (he : EI ⟨none, fun _ => none, H⟩ E (fun _ => none) H σ ρ0) (hw : ∀ m, M.fin (mb ρ0) = m → m.wp 0 (fun b _ => b = true) (fun _ => False)) (hD : ∀ H', D.rt (.bl true) H') : t D σ H := by
  refine hb ⟨none, fun _ => none, H⟩ (fun _ => none) H σ ρ0 0 D ⟨(fun _ _ z => nomatch z), ExtX.refl (fun _ _ z => nomatch z), (fun _ e => nomatch e)⟩ he ?_
  refine (mb ρ0).mono 0 (fun t c z => ?_) (fun er z => z.elim) (hw _ rfl)
  cases t with
  | nx _ => exact z.elim
  | rt b =>
    intro v F' H' w r
    have z : b = true := z
    have r : v = .bl b := r
    rw [r, z]
    exact hD H'
  | bk _ => exact z.elim
  | ct _ => exact z.elim
/-- one question put to _law_right -/
theorem right_call {p : Addr} {H : Hp} {c : Nat} {Q : VK} {X : XK} (hd : Dice p H c) (hc : c < 7000) (q : ∀ H' d, d ≤ c + 900 → (∀ b o, b ≠ p → H b = some o → H' b = some o) → Dice p H' d → Q (.bl true) H') : spOfD aNil rBl m__law_walk_right [.ref p] H Q X := by
  refine ⟨fun _ => none, p, [], (), c, rfl, (fun _ _ z => nomatch z), rfl, hd, rfl, w_right hc fun d hd' v F' H' x _ dd rv => ?_⟩
  have rv : v = .bl true := rv
  rw [rv]
  exact q H' d hd' (fun b o n h => x.hp b o (fun z => n (Option.some.inj z).symm) h) dd
def spLaw (K : PySem.W.Frag) : Sp := fun vs H Q _ => ∃ (a : Addr) (ns : List Int), vs = [.ref a] ∧ SqL K H a (ns.map V.int) ∧ ns.length ≤ 100 ∧ ∀ H', Q (.bl true) H'
theorem ok_law (F : Fun K "law" "law" (topS 55) f fd) (bn : Binds K fd ["_law_script"] []) (G__law_dice : GD P w K mg base "_law_dice" 2 (spDice K)) (G__law_walk_right : GD P w K mg base "_law_walk_right" 11 (spOfD aNil rBl m__law_walk_right)) (fr : Free mg) (G_moved : GD P w K mg base "moved" 4 (spOf (aCons (rTpd rInt) (aCons rStr aNil)) (rTpd rInt) m_moved)) : FnG P w K mg base 13 f 1 (spLaw K) := by
  refine PF.Fun.okG F sc_law bn (fun cdv A outer s H vs Q hgd hr h => ⟨_, (pss_cons (ps_for PassesOwn.never rfl (pi_range1 (by rfl) fr.b_range (pa_cons (pe_callB (call_max2 rfl) (by rfl) fr.b_max (by decide +kernel) (pa_cons pe_int (pa_cons (pe_callB (call_min2 rfl) (by rfl) fr.b_min (by decide +kernel) (pa_cons pe_int (pa_cons (pe_callB call_len (by rfl) fr.b_len (by decide +kernel) (pa_cons (pv 0) pa_nil)) pa_nil))) pa_nil))) pa_nil)) (pg_name (i := 1) sc_law.nd rfl (by first | exact Or.inl rfl | exact Or.inr rfl))
    (pss_cons (ps_set (i := 2) sc_law.nd rfl (by first | exact Or.inl rfl | exact Or.inr rfl) (pe_c1 G__law_dice (hr.mono (by decide)) (pa_cons (pv 0) (pa_cons (pv 1) pa_nil))))
    (pss_one (ps_if (PW.pt (pw_or (pt_not (pt_val (pe_c1 G__law_walk_right (hr.mono (by decide)) (pa_cons (pv 2) pa_nil)))) (pw_or1 (pt_not (pt_val (pe_c1 G__law_walk_right (hr.mono (by decide)) (pa_cons (pv 2) pa_nil))))))) (pss_one (ps_ret pe_bl)) pss_nil))))
    (pss_one (ps_ret (pe_cmpR (op_eqD (hu64 hr) : OpR _ _ (rEqD K)) (pe_lst (pa_cons (pe_c1 G_moved (hr.mono (by decide)) (pa_cons (pe_tupD (pa_cons pe_int (pa_cons pe_int (pa_cons pe_int pa_nil)))) (pa_cons pe_str pa_nil))) (pa_cons (pe_c1 G_moved (hr.mono (by decide)) (pa_cons (pe_tupD (pa_cons pe_int (pa_cons pe_int (pa_cons pe_int pa_nil)))) (pa_cons pe_str pa_nil))) (pa_cons (pe_c1 G_moved (hr.mono (by decide)) (pa_cons (pe_tupD (pa_cons pe_int (pa_cons pe_int pa_nil))) (pa_cons pe_str pa_nil))) pa_nil)))) (pe_lst (pa_cons (pe_tup (pa_cons pe_int (pa_cons pe_int (pa_cons pe_int pa_nil)))) (pa_cons (pe_tup (pa_cons pe_int (pa_cons pe_int (pa_cons pe_int pa_nil)))) (pa_cons (pe_tup (pa_cons pe_int (pa_cons pe_int pa_nil))) pa_nil)))) (nomark _))))), ?_⟩)
  obtain ⟨a, ns, rfl, hS, hl, q⟩ := h
  have ln : (ns.map V.int).length = ns.length := List.length_map _
  refine ⟨_, rfl, _, (ns.map V.int).length, rfl, .inl ⟨_, hS, rfl⟩, _, _, rfl, _, _, rfl, _, rfl, ?_, ?_, ?_⟩
  · split <;> omega
  · have : (2 : Int) ^ 62 = 4611686018427387904 := by decide
    split
    · split <;> omega
    · omega
  generalize hj : (if (if ((ns.map V.int).length : Int) < 2 then ((ns.map V.int).length : Int) else 2) > 1 then (if ((ns.map V.int).length : Int) < 2 then ((ns.map V.int).length : Int) else 2) else 1) = j
  have j3 : j ≤ 2 := by
    rw [← hj]
    split
    · split <;> omega
    · omega
  have sq : ∀ {H' H2 : Hp} {p : Addr}, SqL K H' a (ns.map V.int) → H' p = none → (∀ b o, b ≠ p → H' b = some o → H2 b = some o) → SqL K H2 a (ns.map V.int) := fun {H' H2 p} h n e => by
    rcases h with h | h
    · rcases h with h | ⟨o, h⟩
      · exact .inl (.inl (e _ _ (fun z => by rw [z, n] at h; cases h) h))
      · exact .inl (.inr ⟨o, e _ _ (fun z => by rw [z, n] at h; cases h) h⟩)
    · exact .inr h
  refine for_range (lo := 0) (fun i σ H' => ∃ o2 o3, σ = [some (.ref a), o2, o3] ∧ SqL K H' a (ns.map V.int)) ⟨none, none, rfl, hS⟩ ?_ ?_
  · rintro i _ H' hi ⟨o2, o3, rfl, hS'⟩
    refine ⟨_, rfl, _, rfl, a, ns, 0 + (i : Int), rfl, hS', hl, by omega, by omega, fun p H2 s2 np dd => ?_⟩
    refine ⟨_, rfl, right_call (X := E0) dd (by decide) fun H3 d3 hd3 e3 dd3 => ⟨_, rfl, ?_⟩⟩
    refine (if_neg (by simp)).mpr ?_
    refine ⟨_, rfl, right_call (X := E0) dd3 (by omega) fun H4 d4 hd4 e4 dd4 => ⟨_, rfl, ?_⟩⟩
    refine (if_neg (by simp)).mpr ?_
    refine ⟨_, _, rfl, sq hS' np fun b o n z => e4 b o n (e3 b o n (s2 b o z))⟩
  rintro _ H1 ⟨o2, o3, rfl, _⟩
  dsimp only
  refine tail_run (E := (eCons sUn (eCons sUn (eCons sUn eNil)))) (ρ0 := ((), ((), ((), ())))) (s_ret (e_op (o_eqD (da := (fun (xs : (List (List Int))) => PyData.list (xs.map (fun (xs : (List Int)) => PyData.tuple (xs.map PyData.int))))) (db := (fun (xs : (List (List Int))) => PyData.list (xs.map (fun (xs : (List Int)) => PyData.tuple (xs.map PyData.int))))) (dp_ls (dp_tup dp_int)) (dp_ls (dp_tup dp_int))) (SN.se (n_lst (hom_cons (hom_cons (hom_cons hom_nil))) (a_cons (e_tpd (K := K) (e_call (a_cons (e_tupLD (al_cons e_int (al_cons e_int (al_cons e_int al_nil)))) (a_cons e_str a_nil)))) (a_cons (e_tpd (K := K) (e_call (a_cons (e_tupLD (al_cons e_int (al_cons e_int (al_cons e_int al_nil)))) (a_cons e_str a_nil)))) (a_cons (e_tpd (K := K) (e_call (a_cons (e_tupLD (al_cons e_int (al_cons e_int al_nil))) (a_cons e_str a_nil)))) a_nil))) (le_n 3))) (SN.se (n_lst (hom_cons (hom_cons (hom_cons hom_nil))) (a_cons (e_tupH (hom_cons (hom_cons (hom_cons hom_nil))) (a_cons e_int (a_cons e_int (a_cons e_int a_nil))) (le_n 3)) (a_cons (e_tupH (hom_cons (hom_cons (hom_cons hom_nil))) (a_cons e_int (a_cons e_int (a_cons e_int a_nil))) (le_n 3)) (a_cons (e_tupH (hom_cons (hom_cons hom_nil)) (a_cons e_int (a_cons e_int a_nil)) (le_n 2)) a_nil))) (le_n 3))))) ?_ ?_ q
  · exact ⟨⟨_, _, rfl, trivial, _, _, rfl, trivial, _, _, rfl, trivial, rfl⟩, List.nodup_nil⟩
  · exact fun m e => w_law e rfl
end
end PF2

set_option Elab.async false
set_option linter.all false
set_option maxRecDepth 100000
set_option maxHeartbeats 4000000
set_option exponentiation.threshold 20000
namespace PF
open PySem PySem.Spec PyProof.Rows L2 SlX
theorem kit_self {K : PySem.W.Frag} {C : Addr} : PySem.W.kitOne K (.ref C) (.ref C) = some true := by
  unfold PySem.W.kitOne
  rw [if_pos (by simp)]
theorem kit_own {K : PySem.W.Frag} {C : Addr} {t : Value} {b : Bool} (ne : (t == Value.ref C) = false) (h1 : PySem.W.isClsIn K C = true) (h2 : PySem.W.typeIn K (.ref C) = some (.type "type")) (h3 : PySem.W.subIn K t (.ref C) = some b) : PySem.W.kitOne K t (.ref C) = some b := by
  unfold PySem.W.kitOne
  rw [ne, if_neg Bool.false_ne_true]
  show (if ((PySem.W.clsIn K C).isSome && PySem.W.typeIn K (.ref C) == some (.type "type")) = true then PySem.W.subIn K t (.ref C) else none) = some b
  rw [if_pos (by rw [show (PySem.W.clsIn K C).isSome = true from h1, h2]; rfl)]
  exact h3
theorem kit_bi {K : PySem.W.Frag} {C : Addr} {T : String} {b : Bool} (h1 : PySem.W.kitMeta T = true) (h3 : PySem.W.subIn K (.ref C) (.type T) = some b) : PySem.W.kitOne K (.ref C) (.type T) = some b := by
  unfold PySem.W.kitOne
  rw [if_neg (show ¬ (Value.ref C == Value.type T) = true from fun z => nomatch z)]
  show (if PySem.W.kitMeta T = true then PySem.W.subIn K (.ref C) (.type T) else none) = some b
  rw [if_pos h1]
  exact h3
theorem nf_of {K : PySem.W.Frag} {C : Addr} {t : Value} (h : PySem.W.subIn K t (.ref C) = some false) : PySem.W.notFirst K C t = true := by
  unfold PySem.W.notFirst
  rw [h]
  simp
end PF
namespace PF2
open PF PySem PySem.Spec PyProof.Rows L2 SlX

theorem all_mk {prog : Program} {w : World} {K : PySem.W.Frag} {h : Heap} {mg : Str → Option Value} {fa : Addr} (X : K.In h) (G : h.Ns mainGlobals mg) (hfa : mg "law" = some (.ref fa))
    {CO : Addr}
    {pCOown_is_whole : Addr}
    {pCOown_lower : Addr}
    {pCOown_lower_at : Addr}
    {pCOown_names : Addr}
    {pCOown_needless : Addr}
    {pCOown_places : Addr}
    {pCOown_text : Addr}
    {pCOown_upper : Addr}
    {pCOown_upper_at : Addr}
    {ft0 : Addr} {odt0 ant0 : Option Addr} {slt0 : Array (Option Value)} {oct0 kVt0 dct0 pmt0 cdt0 ctt0 : Value}
    {ft1 : Addr} {odt1 ant1 : Option Addr} {slt1 : Array (Option Value)} {oct1 kVt1 dct1 pmt1 cdt1 ctt1 : Value}
    {ft2 : Addr} {odt2 ant2 : Option Addr} {slt2 : Array (Option Value)} {oct2 kVt2 dct2 pmt2 cdt2 ctt2 : Value}
    {ft3 : Addr} {odt3 ant3 : Option Addr} {slt3 : Array (Option Value)} {oct3 kVt3 dct3 pmt3 cdt3 ctt3 : Value}
    {ft4 : Addr} {odt4 ant4 : Option Addr} {slt4 : Array (Option Value)} {oct4 kVt4 dct4 pmt4 cdt4 ctt4 : Value}
    {ft5 : Addr} {odt5 ant5 : Option Addr} {slt5 : Array (Option Value)} {oct5 kVt5 dct5 pmt5 cdt5 ctt5 : Value}
    {ft6 : Addr} {odt6 ant6 : Option Addr} {slt6 : Array (Option Value)} {oct6 kVt6 dct6 pmt6 cdt6 ctt6 : Value}
    {ft7 : Addr} {odt7 ant7 : Option Addr} {slt7 : Array (Option Value)} {oct7 kVt7 dct7 pmt7 cdt7 ctt7 : Value}
    {finiCO : Addr} {odiniCO aniniCO : Option Addr} {sliniCO : Array (Option Value)} {ociniCO kViniCO dciniCO pminiCO cdiniCO ctiniCO : Value}
    {dpCO_above : Addr} {rspCO_above : List Value}
    {fpCO_above : Addr} {odpCO_above anpCO_above : Option Addr} {slpCO_above : Array (Option Value)} {ocpCO_above kVpCO_above dcpCO_above pmpCO_above cdpCO_above ctpCO_above : Value}
    {dpCO_below : Addr} {rspCO_below : List Value}
    {fpCO_below : Addr} {odpCO_below anpCO_below : Option Addr} {slpCO_below : Array (Option Value)} {ocpCO_below kVpCO_below dcpCO_below pmpCO_below cdpCO_below ctpCO_below : Value}
    {dpCO_names : Addr} {rspCO_names : List Value}
    {fpCO_names : Addr} {odpCO_names anpCO_names : Option Addr} {slpCO_names : Array (Option Value)} {ocpCO_names kVpCO_names dcpCO_names pmpCO_names cdpCO_names ctpCO_names : Value}
    {dpCO_many : Addr} {rspCO_many : List Value}
    {fpCO_many : Addr} {odpCO_many anpCO_many : Option Addr} {slpCO_many : Array (Option Value)} {ocpCO_many kVpCO_many dcpCO_many pmpCO_many cdpCO_many ctpCO_many : Value}
    {dpCO_places : Addr} {rspCO_places : List Value}
    {fpCO_places : Addr} {odpCO_places anpCO_places : Option Addr} {slpCO_places : Array (Option Value)} {ocpCO_places kVpCO_places dcpCO_places pmpCO_places cdpCO_places ctpCO_places : Value}
    {dpCO_is_whole : Addr} {rspCO_is_whole : List Value}
    {fpCO_is_whole : Addr} {odpCO_is_whole anpCO_is_whole : Option Addr} {slpCO_is_whole : Array (Option Value)} {ocpCO_is_whole kVpCO_is_whole dcpCO_is_whole pmpCO_is_whole cdpCO_is_whole ctpCO_is_whole : Value}
    {fqCO_len : Addr} {odqCO_len anqCO_len : Option Addr} {slqCO_len : Array (Option Value)} {ocqCO_len kVqCO_len dcqCO_len pmqCO_len cdqCO_len ctqCO_len : Value}
    {fqCO_contains : Addr} {odqCO_contains anqCO_contains : Option Addr} {slqCO_contains : Array (Option Value)} {ocqCO_contains kVqCO_contains dcqCO_contains pmqCO_contains cdqCO_contains ctqCO_contains : Value}
    {feqCO : Addr} {odeqCO aneqCO : Option Addr} {sleqCO : Array (Option Value)} {oceqCO kVeqCO dceqCO pmeqCO cdeqCO cteqCO : Value}
    {fstrCO : Addr} {odstrCO anstrCO : Option Addr} {slstrCO : Array (Option Value)} {ocstrCO kVstrCO dcstrCO pmstrCO cdstrCO ctstrCO : Value}
    {dcCO_read : Addr} {rscCO_read : List Value}
    {fcCO_read : Addr} {odcCO_read ancCO_read : Option Addr} {slcCO_read : Array (Option Value)} {occCO_read kVcCO_read dccCO_read pmcCO_read cdcCO_read ctcCO_read : Value}
    {fmCO_blocks : Addr} {odmCO_blocks anmCO_blocks : Option Addr} {slmCO_blocks : Array (Option Value)} {ocmCO_blocks kVmCO_blocks dcmCO_blocks pmmCO_blocks cdmCO_blocks ctmCO_blocks : Value}
    {ft8 : Addr} {odt8 ant8 : Option Addr} {slt8 : Array (Option Value)} {oct8 kVt8 dct8 pmt8 cdt8 ctt8 : Value}
    {fmCO_renamed : Addr} {odmCO_renamed anmCO_renamed : Option Addr} {slmCO_renamed : Array (Option Value)} {ocmCO_renamed kVmCO_renamed dcmCO_renamed pmmCO_renamed cdmCO_renamed ctmCO_renamed : Value}
    {ft9 : Addr} {odt9 ant9 : Option Addr} {slt9 : Array (Option Value)} {oct9 kVt9 dct9 pmt9 cdt9 ctt9 : Value}
    {ft10 : Addr} {odt10 ant10 : Option Addr} {slt10 : Array (Option Value)} {oct10 kVt10 dct10 pmt10 cdt10 ctt10 : Value}
    {ft11 : Addr} {odt11 ant11 : Option Addr} {slt11 : Array (Option Value)} {oct11 kVt11 dct11 pmt11 cdt11 ctt11 : Value}
    {ft12 : Addr} {odt12 ant12 : Option Addr} {slt12 : Array (Option Value)} {oct12 kVt12 dct12 pmt12 cdt12 ctt12 : Value}
    {ft13 : Addr} {odt13 ant13 : Option Addr} {slt13 : Array (Option Value)} {oct13 kVt13 dct13 pmt13 cdt13 ctt13 : Value}
    {ft14 : Addr} {odt14 ant14 : Option Addr} {slt14 : Array (Option Value)} {oct14 kVt14 dct14 pmt14 cdt14 ctt14 : Value}
    {ft15 : Addr} {odt15 ant15 : Option Addr} {slt15 : Array (Option Value)} {oct15 kVt15 dct15 pmt15 cdt15 ctt15 : Value}
    {ft16 : Addr} {odt16 ant16 : Option Addr} {slt16 : Array (Option Value)} {oct16 kVt16 dct16 pmt16 cdt16 ctt16 : Value}
    {ft17 : Addr} {odt17 ant17 : Option Addr} {slt17 : Array (Option Value)} {oct17 kVt17 dct17 pmt17 cdt17 ctt17 : Value}
    {ft18 : Addr} {odt18 ant18 : Option Addr} {slt18 : Array (Option Value)} {oct18 kVt18 dct18 pmt18 cdt18 ctt18 : Value}
    {ft19 : Addr} {odt19 ant19 : Option Addr} {slt19 : Array (Option Value)} {oct19 kVt19 dct19 pmt19 cdt19 ctt19 : Value}
    {ft20 : Addr} {odt20 ant20 : Option Addr} {slt20 : Array (Option Value)} {oct20 kVt20 dct20 pmt20 cdt20 ctt20 : Value}
    {ft21 : Addr} {odt21 ant21 : Option Addr} {slt21 : Array (Option Value)} {oct21 kVt21 dct21 pmt21 cdt21 ctt21 : Value}
    {ft22 : Addr} {odt22 ant22 : Option Addr} {slt22 : Array (Option Value)} {oct22 kVt22 dct22 pmt22 cdt22 ctt22 : Value}
    {ft23 : Addr} {odt23 ant23 : Option Addr} {slt23 : Array (Option Value)} {oct23 kVt23 dct23 pmt23 cdt23 ctt23 : Value}
    {ft24 : Addr} {odt24 ant24 : Option Addr} {slt24 : Array (Option Value)} {oct24 kVt24 dct24 pmt24 cdt24 ctt24 : Value}
    {ft25 : Addr} {odt25 ant25 : Option Addr} {slt25 : Array (Option Value)} {oct25 kVt25 dct25 pmt25 cdt25 ctt25 : Value}
    {ft26 : Addr} {odt26 ant26 : Option Addr} {slt26 : Array (Option Value)} {oct26 kVt26 dct26 pmt26 cdt26 ctt26 : Value}
    {ft27 : Addr} {odt27 ant27 : Option Addr} {slt27 : Array (Option Value)} {oct27 kVt27 dct27 pmt27 cdt27 ctt27 : Value}
    {ft28 : Addr} {odt28 ant28 : Option Addr} {slt28 : Array (Option Value)} {oct28 kVt28 dct28 pmt28 cdt28 ctt28 : Value}
    {ft29 : Addr} {odt29 ant29 : Option Addr} {slt29 : Array (Option Value)} {oct29 kVt29 dct29 pmt29 cdt29 ctt29 : Value}
    {ft30 : Addr} {odt30 ant30 : Option Addr} {slt30 : Array (Option Value)} {oct30 kVt30 dct30 pmt30 cdt30 ctt30 : Value}
    {ft31 : Addr} {odt31 ant31 : Option Addr} {slt31 : Array (Option Value)} {oct31 kVt31 dct31 pmt31 cdt31 ctt31 : Value}
    {ft32 : Addr} {odt32 ant32 : Option Addr} {slt32 : Array (Option Value)} {oct32 kVt32 dct32 pmt32 cdt32 ctt32 : Value}
    {ft33 : Addr} {odt33 ant33 : Option Addr} {slt33 : Array (Option Value)} {oct33 kVt33 dct33 pmt33 cdt33 ctt33 : Value}
    {tkEVEN : Tok}
    {cKINDS : Addr} {odKINDS : Option Addr} {nKINDS : Nat} {slKINDS : Array (Option Value)} {tKINDS_0 tKINDS_1 tKINDS_2 : Tok}
    {tkLETTERS : Tok}
    {tkLOWER : Tok}
    {tkMAX_COURSE : Tok}
    {tkMAX_LETTERS : Tok}
    {tkMAX_NAMES : Tok}
    {tkMAX_PLACES : Tok}
    {tkUPPER : Tok}
    {cWALKED : Addr} {odWALKED : Option Addr} {nWALKED : Nat} {slWALKED : Array (Option Value)} {tWALKED_0 tWALKED_1 : Tok}
    (z_abs : PySem.W.nsIn K mainGlobals "abs" = some none)
    (z_all : PySem.W.nsIn K mainGlobals "all" = some none)
    (z_bool : PySem.W.nsIn K mainGlobals "bool" = some none)
    (z_dict : PySem.W.nsIn K mainGlobals "dict" = some none)
    (z_enumerate : PySem.W.nsIn K mainGlobals "enumerate" = some none)
    (z_int : PySem.W.nsIn K mainGlobals "int" = some none)
    (z_isinstance : PySem.W.nsIn K mainGlobals "isinstance" = some none)
    (z_len : PySem.W.nsIn K mainGlobals "len" = some none)
    (z_list : PySem.W.nsIn K mainGlobals "list" = some none)
    (z_max : PySem.W.nsIn K mainGlobals "max" = some none)
    (z_min : PySem.W.nsIn K mainGlobals "min" = some none)
    (z_range : PySem.W.nsIn K mainGlobals "range" = some none)
    (z_set : PySem.W.nsIn K mainGlobals "set" = some none)
    (z_sorted : PySem.W.nsIn K mainGlobals "sorted" = some none)
    (z_str : PySem.W.nsIn K mainGlobals "str" = some none)
    (z_tuple : PySem.W.nsIn K mainGlobals "tuple" = some none)
    (z_zip : PySem.W.nsIn K mainGlobals "zip" = some none)
    (cn : PySem.W.specialIn K (.builtin "object.__class__") "__get__" = some (some (.builtin "getset_descriptor.__get__")))
    (ct : PySem.W.takesIn K (.builtin "object.__class__") = some true)
    (aCO : PySem.W.nsIn K mainGlobals "Order" = some (some (.ref CO)))
    (pgCO : PySem.W.plainGet K CO Str.empty = true)
    (icCO : PySem.W.isClsIn K CO = true)
    (poCO : PySem.W.plainOver K CO = true)
    (saCO : PySem.W.findIn K (.ref CO) "__setattr__" = some (some (.builtin "object.__setattr__")))
    (caCO : PySem.W.findIn K (.ref CO) "__class__" = some (some (.builtin "object.__class__")))
    (cmCO : PySem.W.mroIn K CO (.type "object") = some true)
    (mkCO : PySem.W.makesIn K CO = true)
    (kcCO : PySem.W.keepIn K (.ref CO) = true)
    (saCOown_is_whole : PySem.W.findIn K (.ref CO) "own_is_whole" = some (some (.ref pCOown_is_whole)))
    (sgCOown_is_whole : PySem.W.specialIn K (.ref pCOown_is_whole) "__get__" = some (some (.builtin "member_descriptor.__get__")))
    (stCOown_is_whole : PySem.W.takesIn K (.ref pCOown_is_whole) = some true)
    (syCOown_is_whole : PySem.W.typeIn K (.ref pCOown_is_whole) = some (.type "member_descriptor"))
    (sxCOown_is_whole : PySem.W.slotIn K pCOown_is_whole CO = some 0)
    (saCOown_lower : PySem.W.findIn K (.ref CO) "own_lower" = some (some (.ref pCOown_lower)))
    (sgCOown_lower : PySem.W.specialIn K (.ref pCOown_lower) "__get__" = some (some (.builtin "member_descriptor.__get__")))
    (stCOown_lower : PySem.W.takesIn K (.ref pCOown_lower) = some true)
    (syCOown_lower : PySem.W.typeIn K (.ref pCOown_lower) = some (.type "member_descriptor"))
    (sxCOown_lower : PySem.W.slotIn K pCOown_lower CO = some 1)
    (saCOown_lower_at : PySem.W.findIn K (.ref CO) "own_lower_at" = some (some (.ref pCOown_lower_at)))
    (sgCOown_lower_at : PySem.W.specialIn K (.ref pCOown_lower_at) "__get__" = some (some (.builtin "member_descriptor.__get__")))
    (stCOown_lower_at : PySem.W.takesIn K (.ref pCOown_lower_at) = some true)
    (syCOown_lower_at : PySem.W.typeIn K (.ref pCOown_lower_at) = some (.type "member_descriptor"))
    (sxCOown_lower_at : PySem.W.slotIn K pCOown_lower_at CO = some 2)
    (saCOown_names : PySem.W.findIn K (.ref CO) "own_names" = some (some (.ref pCOown_names)))
    (sgCOown_names : PySem.W.specialIn K (.ref pCOown_names) "__get__" = some (some (.builtin "member_descriptor.__get__")))
    (stCOown_names : PySem.W.takesIn K (.ref pCOown_names) = some true)
    (syCOown_names : PySem.W.typeIn K (.ref pCOown_names) = some (.type "member_descriptor"))
    (sxCOown_names : PySem.W.slotIn K pCOown_names CO = some 3)
    (saCOown_needless : PySem.W.findIn K (.ref CO) "own_needless" = some (some (.ref pCOown_needless)))
    (sgCOown_needless : PySem.W.specialIn K (.ref pCOown_needless) "__get__" = some (some (.builtin "member_descriptor.__get__")))
    (stCOown_needless : PySem.W.takesIn K (.ref pCOown_needless) = some true)
    (syCOown_needless : PySem.W.typeIn K (.ref pCOown_needless) = some (.type "member_descriptor"))
    (sxCOown_needless : PySem.W.slotIn K pCOown_needless CO = some 4)
    (saCOown_places : PySem.W.findIn K (.ref CO) "own_places" = some (some (.ref pCOown_places)))
    (sgCOown_places : PySem.W.specialIn K (.ref pCOown_places) "__get__" = some (some (.builtin "member_descriptor.__get__")))
    (stCOown_places : PySem.W.takesIn K (.ref pCOown_places) = some true)
    (syCOown_places : PySem.W.typeIn K (.ref pCOown_places) = some (.type "member_descriptor"))
    (sxCOown_places : PySem.W.slotIn K pCOown_places CO = some 5)
    (saCOown_text : PySem.W.findIn K (.ref CO) "own_text" = some (some (.ref pCOown_text)))
    (sgCOown_text : PySem.W.specialIn K (.ref pCOown_text) "__get__" = some (some (.builtin "member_descriptor.__get__")))
    (stCOown_text : PySem.W.takesIn K (.ref pCOown_text) = some true)
    (syCOown_text : PySem.W.typeIn K (.ref pCOown_text) = some (.type "member_descriptor"))
    (sxCOown_text : PySem.W.slotIn K pCOown_text CO = some 6)
    (saCOown_upper : PySem.W.findIn K (.ref CO) "own_upper" = some (some (.ref pCOown_upper)))
    (sgCOown_upper : PySem.W.specialIn K (.ref pCOown_upper) "__get__" = some (some (.builtin "member_descriptor.__get__")))
    (stCOown_upper : PySem.W.takesIn K (.ref pCOown_upper) = some true)
    (syCOown_upper : PySem.W.typeIn K (.ref pCOown_upper) = some (.type "member_descriptor"))
    (sxCOown_upper : PySem.W.slotIn K pCOown_upper CO = some 7)
    (saCOown_upper_at : PySem.W.findIn K (.ref CO) "own_upper_at" = some (some (.ref pCOown_upper_at)))
    (sgCOown_upper_at : PySem.W.specialIn K (.ref pCOown_upper_at) "__get__" = some (some (.builtin "member_descriptor.__get__")))
    (stCOown_upper_at : PySem.W.takesIn K (.ref pCOown_upper_at) = some true)
    (syCOown_upper_at : PySem.W.typeIn K (.ref pCOown_upper_at) = some (.type "member_descriptor"))
    (sxCOown_upper_at : PySem.W.slotIn K pCOown_upper_at CO = some 8)
    (tyCO : PySem.W.typeIn K (.ref CO) = some (.type "type"))
    (suCO_int : PySem.W.subIn K (.type "int") (.ref CO) = some false)
    (suCO_bool : PySem.W.subIn K (.type "bool") (.ref CO) = some false)
    (suCO_str : PySem.W.subIn K (.type "str") (.ref CO) = some false)
    (suCO_NoneType : PySem.W.subIn K (.type "NoneType") (.ref CO) = some false)
    (suCO_list : PySem.W.subIn K (.type "list") (.ref CO) = some false)
    (suCO_tuple : PySem.W.subIn K (.type "tuple") (.ref CO) = some false)
    (suCO_dict : PySem.W.subIn K (.type "dict") (.ref CO) = some false)
    (at0 : PySem.W.nsIn K mainGlobals "_law_dice" = some (some (.ref ft0)))
    (lt0 : K.lookup ft0 = some ⟨oct0, odt0, .func (PySem.W.fnOf "_law_dice" "_law_dice" (defArgs (topS 42)) (defBody (topS 42)) (defScope (topS 42)) .none kVt0 dct0 pmt0 ant0 cdt0 ctt0), slt0⟩)
    (ct0 : PySem.W.codeIn K cdt0 "_law_dice" = true)
    (kt0 : PySem.W.keepIn K (.ref ft0) = true)
    (at1 : PySem.W.nsIn K mainGlobals "_law_roll" = some (some (.ref ft1)))
    (lt1 : K.lookup ft1 = some ⟨oct1, odt1, .func (PySem.W.fnOf "_law_roll" "_law_roll" (defArgs (topS 43)) (defBody (topS 43)) (defScope (topS 43)) .none kVt1 dct1 pmt1 ant1 cdt1 ctt1), slt1⟩)
    (ct1 : PySem.W.codeIn K cdt1 "_law_roll" = true)
    (kt1 : PySem.W.keepIn K (.ref ft1) = true)
    (at2 : PySem.W.nsIn K mainGlobals "_law_pick" = some (some (.ref ft2)))
    (lt2 : K.lookup ft2 = some ⟨oct2, odt2, .func (PySem.W.fnOf "_law_pick" "_law_pick" (defArgs (topS 44)) (defBody (topS 44)) (defScope (topS 44)) .none kVt2 dct2 pmt2 ant2 cdt2 ctt2), slt2⟩)
    (ct2 : PySem.W.codeIn K cdt2 "_law_pick" = true)
    (kt2 : PySem.W.keepIn K (.ref ft2) = true)
    (at3 : PySem.W.nsIn K mainGlobals "is_name" = some (some (.ref ft3)))
    (lt3 : K.lookup ft3 = some ⟨oct3, odt3, .func (PySem.W.fnOf "is_name" "is_name" (defArgs (topS 10)) (defBody (topS 10)) (defScope (topS 10)) .none kVt3 dct3 pmt3 ant3 cdt3 ctt3), slt3⟩)
    (ct3 : PySem.W.codeIn K cdt3 "is_name" = true)
    (kt3 : PySem.W.keepIn K (.ref ft3) = true)
    (at4 : PySem.W.nsIn K mainGlobals "is_row" = some (some (.ref ft4)))
    (lt4 : K.lookup ft4 = some ⟨oct4, odt4, .func (PySem.W.fnOf "is_row" "is_row" (defArgs (topS 13)) (defBody (topS 13)) (defScope (topS 13)) .none kVt4 dct4 pmt4 ant4 cdt4 ctt4), slt4⟩)
    (ct4 : PySem.W.codeIn K cdt4 "is_row" = true)
    (kt4 : PySem.W.keepIn K (.ref ft4) = true)
    (at5 : PySem.W.nsIn K mainGlobals "block_ends" = some (some (.ref ft5)))
    (lt5 : K.lookup ft5 = some ⟨oct5, odt5, .func (PySem.W.fnOf "block_ends" "block_ends" (defArgs (topS 14)) (defBody (topS 14)) (defScope (topS 14)) .none kVt5 dct5 pmt5 ant5 cdt5 ctt5), slt5⟩)
    (ct5 : PySem.W.codeIn K cdt5 "block_ends" = true)
    (kt5 : PySem.W.keepIn K (.ref ft5) = true)
    (at6 : PySem.W.nsIn K mainGlobals "row_in" = some (some (.ref ft6)))
    (lt6 : K.lookup ft6 = some ⟨oct6, odt6, .func (PySem.W.fnOf "row_in" "row_in" (defArgs (topS 15)) (defBody (topS 15)) (defScope (topS 15)) .none kVt6 dct6 pmt6 ant6 cdt6 ctt6), slt6⟩)
    (ct6 : PySem.W.codeIn K cdt6 "row_in" = true)
    (kt6 : PySem.W.keepIn K (.ref ft6) = true)
    (at7 : PySem.W.nsIn K mainGlobals "needless_in" = some (some (.ref ft7)))
    (lt7 : K.lookup ft7 = some ⟨oct7, odt7, .func (PySem.W.fnOf "needless_in" "needless_in" (defArgs (topS 16)) (defBody (topS 16)) (defScope (topS 16)) .none kVt7 dct7 pmt7 ant7 cdt7 ctt7), slt7⟩)
    (ct7 : PySem.W.codeIn K cdt7 "needless_in" = true)
    (kt7 : PySem.W.keepIn K (.ref ft7) = true)
    (ainiCO : PySem.W.findIn K (.ref CO) "__init__" = some (some (.ref finiCO)))
    (liniCO : K.lookup finiCO = some ⟨ociniCO, odiniCO, .func (PySem.W.fnOf "__init__" "Order.__init__" (defArgs (inClass (topS 17) 1)) (defBody (inClass (topS 17) 1)) (defScope (inClass (topS 17) 1)) .none kViniCO dciniCO pminiCO aniniCO cdiniCO ctiniCO), sliniCO⟩)
    (ciniCO : PySem.W.codeIn K cdiniCO "Order.__init__" = true)
    (kiniCO : PySem.W.keepIn K (.ref finiCO) = true)
    (iiniCO : PySem.W.isFn K (.ref finiCO) = true)
    (apCO_above : PySem.W.findIn K (.ref CO) "above" = some (some (.ref dpCO_above)))
    (spCO_above : PySem.W.specialIn K (.ref dpCO_above) "__get__" = some (some (.builtin "property.__get__")))
    (tpCO_above : PySem.W.takesIn K (.ref dpCO_above) = some true)
    (rpCO_above : PySem.W.recIn K dpCO_above "property" = some (.ref fpCO_above :: rspCO_above))
    (lpCO_above : K.lookup fpCO_above = some ⟨ocpCO_above, odpCO_above, .func (PySem.W.fnOf "above" "Order.above" (defArgs (inClass (topS 17) 3)) (defBody (inClass (topS 17) 3)) (defScope (inClass (topS 17) 3)) .none kVpCO_above dcpCO_above pmpCO_above anpCO_above cdpCO_above ctpCO_above), slpCO_above⟩)
    (cpCO_above : PySem.W.codeIn K cdpCO_above "Order.above" = true)
    (kpCO_above : PySem.W.keepIn K (.ref fpCO_above) = true)
    (apCO_below : PySem.W.findIn K (.ref CO) "below" = some (some (.ref dpCO_below)))
    (spCO_below : PySem.W.specialIn K (.ref dpCO_below) "__get__" = some (some (.builtin "property.__get__")))
    (tpCO_below : PySem.W.takesIn K (.ref dpCO_below) = some true)
    (rpCO_below : PySem.W.recIn K dpCO_below "property" = some (.ref fpCO_below :: rspCO_below))
    (lpCO_below : K.lookup fpCO_below = some ⟨ocpCO_below, odpCO_below, .func (PySem.W.fnOf "below" "Order.below" (defArgs (inClass (topS 17) 4)) (defBody (inClass (topS 17) 4)) (defScope (inClass (topS 17) 4)) .none kVpCO_below dcpCO_below pmpCO_below anpCO_below cdpCO_below ctpCO_below), slpCO_below⟩)
    (cpCO_below : PySem.W.codeIn K cdpCO_below "Order.below" = true)
    (kpCO_below : PySem.W.keepIn K (.ref fpCO_below) = true)
    (apCO_names : PySem.W.findIn K (.ref CO) "names" = some (some (.ref dpCO_names)))
    (spCO_names : PySem.W.specialIn K (.ref dpCO_names) "__get__" = some (some (.builtin "property.__get__")))
    (tpCO_names : PySem.W.takesIn K (.ref dpCO_names) = some true)
    (rpCO_names : PySem.W.recIn K dpCO_names "property" = some (.ref fpCO_names :: rspCO_names))
    (lpCO_names : K.lookup fpCO_names = some ⟨ocpCO_names, odpCO_names, .func (PySem.W.fnOf "names" "Order.names" (defArgs (inClass (topS 17) 5)) (defBody (inClass (topS 17) 5)) (defScope (inClass (topS 17) 5)) .none kVpCO_names dcpCO_names pmpCO_names anpCO_names cdpCO_names ctpCO_names), slpCO_names⟩)
    (cpCO_names : PySem.W.codeIn K cdpCO_names "Order.names" = true)
    (kpCO_names : PySem.W.keepIn K (.ref fpCO_names) = true)
    (apCO_many : PySem.W.findIn K (.ref CO) "many" = some (some (.ref dpCO_many)))
    (spCO_many : PySem.W.specialIn K (.ref dpCO_many) "__get__" = some (some (.builtin "property.__get__")))
    (tpCO_many : PySem.W.takesIn K (.ref dpCO_many) = some true)
    (rpCO_many : PySem.W.recIn K dpCO_many "property" = some (.ref fpCO_many :: rspCO_many))
    (lpCO_many : K.lookup fpCO_many = some ⟨ocpCO_many, odpCO_many, .func (PySem.W.fnOf "many" "Order.many" (defArgs (inClass (topS 17) 6)) (defBody (inClass (topS 17) 6)) (defScope (inClass (topS 17) 6)) .none kVpCO_many dcpCO_many pmpCO_many anpCO_many cdpCO_many ctpCO_many), slpCO_many⟩)
    (cpCO_many : PySem.W.codeIn K cdpCO_many "Order.many" = true)
    (kpCO_many : PySem.W.keepIn K (.ref fpCO_many) = true)
    (apCO_places : PySem.W.findIn K (.ref CO) "places" = some (some (.ref dpCO_places)))
    (spCO_places : PySem.W.specialIn K (.ref dpCO_places) "__get__" = some (some (.builtin "property.__get__")))
    (tpCO_places : PySem.W.takesIn K (.ref dpCO_places) = some true)
    (rpCO_places : PySem.W.recIn K dpCO_places "property" = some (.ref fpCO_places :: rspCO_places))
    (lpCO_places : K.lookup fpCO_places = some ⟨ocpCO_places, odpCO_places, .func (PySem.W.fnOf "places" "Order.places" (defArgs (inClass (topS 17) 7)) (defBody (inClass (topS 17) 7)) (defScope (inClass (topS 17) 7)) .none kVpCO_places dcpCO_places pmpCO_places anpCO_places cdpCO_places ctpCO_places), slpCO_places⟩)
    (cpCO_places : PySem.W.codeIn K cdpCO_places "Order.places" = true)
    (kpCO_places : PySem.W.keepIn K (.ref fpCO_places) = true)
    (apCO_is_whole : PySem.W.findIn K (.ref CO) "is_whole" = some (some (.ref dpCO_is_whole)))
    (spCO_is_whole : PySem.W.specialIn K (.ref dpCO_is_whole) "__get__" = some (some (.builtin "property.__get__")))
    (tpCO_is_whole : PySem.W.takesIn K (.ref dpCO_is_whole) = some true)
    (rpCO_is_whole : PySem.W.recIn K dpCO_is_whole "property" = some (.ref fpCO_is_whole :: rspCO_is_whole))
    (lpCO_is_whole : K.lookup fpCO_is_whole = some ⟨ocpCO_is_whole, odpCO_is_whole, .func (PySem.W.fnOf "is_whole" "Order.is_whole" (defArgs (inClass (topS 17) 8)) (defBody (inClass (topS 17) 8)) (defScope (inClass (topS 17) 8)) .none kVpCO_is_whole dcpCO_is_whole pmpCO_is_whole anpCO_is_whole cdpCO_is_whole ctpCO_is_whole), slpCO_is_whole⟩)
    (cpCO_is_whole : PySem.W.codeIn K cdpCO_is_whole "Order.is_whole" = true)
    (kpCO_is_whole : PySem.W.keepIn K (.ref fpCO_is_whole) = true)
    (aqCO_len : PySem.W.findIn K (.ref CO) "__len__" = some (some (.ref fqCO_len)))
    (lqCO_len : K.lookup fqCO_len = some ⟨ocqCO_len, odqCO_len, .func (PySem.W.fnOf "__len__" "Order.__len__" (defArgs (inClass (topS 17) 16)) (defBody (inClass (topS 17) 16)) (defScope (inClass (topS 17) 16)) .none kVqCO_len dcqCO_len pmqCO_len anqCO_len cdqCO_len ctqCO_len), slqCO_len⟩)
    (cqCO_len : PySem.W.codeIn K cdqCO_len "Order.__len__" = true)
    (kqCO_len : PySem.W.keepIn K (.ref fqCO_len) = true)
    (iqCO_len : PySem.W.isFn K (.ref fqCO_len) = true)
    (aqCO_contains : PySem.W.findIn K (.ref CO) "__contains__" = some (some (.ref fqCO_contains)))
    (lqCO_contains : K.lookup fqCO_contains = some ⟨ocqCO_contains, odqCO_contains, .func (PySem.W.fnOf "__contains__" "Order.__contains__" (defArgs (inClass (topS 17) 17)) (defBody (inClass (topS 17) 17)) (defScope (inClass (topS 17) 17)) .none kVqCO_contains dcqCO_contains pmqCO_contains anqCO_contains cdqCO_contains ctqCO_contains), slqCO_contains⟩)
    (cqCO_contains : PySem.W.codeIn K cdqCO_contains "Order.__contains__" = true)
    (kqCO_contains : PySem.W.keepIn K (.ref fqCO_contains) = true)
    (iqCO_contains : PySem.W.isFn K (.ref fqCO_contains) = true)
    (aeqCO : PySem.W.findIn K (.ref CO) "__eq__" = some (some (.ref feqCO)))
    (leqCO : K.lookup feqCO = some ⟨oceqCO, odeqCO, .func (PySem.W.fnOf "__eq__" "Order.__eq__" (defArgs (inClass (topS 17) 19)) (defBody (inClass (topS 17) 19)) (defScope (inClass (topS 17) 19)) .none kVeqCO dceqCO pmeqCO aneqCO cdeqCO cteqCO), sleqCO⟩)
    (ceqCO : PySem.W.codeIn K cdeqCO "Order.__eq__" = true)
    (keqCO : PySem.W.keepIn K (.ref feqCO) = true)
    (ieqCO : PySem.W.isFn K (.ref feqCO) = true)
    (neCO : PySem.W.findIn K (.ref CO) "__ne__" = some (some (.builtin "object.__ne__")))
    (astrCO : PySem.W.findIn K (.ref CO) "__str__" = some (some (.ref fstrCO)))
    (lstrCO : K.lookup fstrCO = some ⟨ocstrCO, odstrCO, .func (PySem.W.fnOf "__str__" "Order.__str__" (defArgs (inClass (topS 17) 20)) (defBody (inClass (topS 17) 20)) (defScope (inClass (topS 17) 20)) .none kVstrCO dcstrCO pmstrCO anstrCO cdstrCO ctstrCO), slstrCO⟩)
    (cstrCO : PySem.W.codeIn K cdstrCO "Order.__str__" = true)
    (kstrCO : PySem.W.keepIn K (.ref fstrCO) = true)
    (istrCO : PySem.W.isFn K (.ref fstrCO) = true)
    (rdCO : PySem.W.readsIn K CO (.type "type") = true)
    (gaCO : PySem.W.specialIn K (.ref CO) "__getattribute__" = some (some (.builtin "type.__getattribute__")))
    (acCO_read : PySem.W.findCls K (.ref CO) (.type "type") "read" = some (.get (.builtin "classmethod.__get__") (.ref dcCO_read) .none (.ref CO)))
    (rcCO_read : PySem.W.recIn K dcCO_read "classmethod" = some (.ref fcCO_read :: rscCO_read))
    (lcCO_read : K.lookup fcCO_read = some ⟨occCO_read, odcCO_read, .func (PySem.W.fnOf "read" "Order.read" (defArgs (inClass (topS 17) 2)) (defBody (inClass (topS 17) 2)) (defScope (inClass (topS 17) 2)) .none kVcCO_read dccCO_read pmcCO_read ancCO_read cdcCO_read ctcCO_read), slcCO_read⟩)
    (ccCO_read : PySem.W.codeIn K cdcCO_read "Order.read" = true)
    (kcCO_read : PySem.W.keepIn K (.ref fcCO_read) = true)
    (icCO_read : PySem.W.fnIn K fcCO_read = true)
    (amCO_blocks : PySem.W.findIn K (.ref CO) "blocks" = some (some (.ref fmCO_blocks)))
    (lmCO_blocks : K.lookup fmCO_blocks = some ⟨ocmCO_blocks, odmCO_blocks, .func (PySem.W.fnOf "blocks" "Order.blocks" (defArgs (inClass (topS 17) 10)) (defBody (inClass (topS 17) 10)) (defScope (inClass (topS 17) 10)) .none kVmCO_blocks dcmCO_blocks pmmCO_blocks anmCO_blocks cdmCO_blocks ctmCO_blocks), slmCO_blocks⟩)
    (cmCO_blocks : PySem.W.codeIn K cdmCO_blocks "Order.blocks" = true)
    (kmCO_blocks : PySem.W.keepIn K (.ref fmCO_blocks) = true)
    (imCO_blocks : PySem.W.isFn K (.ref fmCO_blocks) = true)
    (at8 : PySem.W.nsIn K mainGlobals "is_naming_of" = some (some (.ref ft8)))
    (lt8 : K.lookup ft8 = some ⟨oct8, odt8, .func (PySem.W.fnOf "is_naming_of" "is_naming_of" (defArgs (topS 18)) (defBody (topS 18)) (defScope (topS 18)) .none kVt8 dct8 pmt8 ant8 cdt8 ctt8), slt8⟩)
    (ct8 : PySem.W.codeIn K cdt8 "is_naming_of" = true)
    (kt8 : PySem.W.keepIn K (.ref ft8) = true)
    (amCO_renamed : PySem.W.findIn K (.ref CO) "renamed" = some (some (.ref fmCO_renamed)))
    (lmCO_renamed : K.lookup fmCO_renamed = some ⟨ocmCO_renamed, odmCO_renamed, .func (PySem.W.fnOf "renamed" "Order.renamed" (defArgs (inClass (topS 17) 14)) (defBody (inClass (topS 17) 14)) (defScope (inClass (topS 17) 14)) .none kVmCO_renamed dcmCO_renamed pmmCO_renamed anmCO_renamed cdmCO_renamed ctmCO_renamed), slmCO_renamed⟩)
    (cmCO_renamed : PySem.W.codeIn K cdmCO_renamed "Order.renamed" = true)
    (kmCO_renamed : PySem.W.keepIn K (.ref fmCO_renamed) = true)
    (imCO_renamed : PySem.W.isFn K (.ref fmCO_renamed) = true)
    (at9 : PySem.W.nsIn K mainGlobals "is_whole" = some (some (.ref ft9)))
    (lt9 : K.lookup ft9 = some ⟨oct9, odt9, .func (PySem.W.fnOf "is_whole" "is_whole" (defArgs (topS 9)) (defBody (topS 9)) (defScope (topS 9)) .none kVt9 dct9 pmt9 ant9 cdt9 ctt9), slt9⟩)
    (ct9 : PySem.W.codeIn K cdt9 "is_whole" = true)
    (kt9 : PySem.W.keepIn K (.ref ft9) = true)
    (at10 : PySem.W.nsIn K mainGlobals "require_order" = some (some (.ref ft10)))
    (lt10 : K.lookup ft10 = some ⟨oct10, odt10, .func (PySem.W.fnOf "require_order" "require_order" (defArgs (topS 19)) (defBody (topS 19)) (defScope (topS 19)) .none kVt10 dct10 pmt10 ant10 cdt10 ctt10), slt10⟩)
    (ct10 : PySem.W.codeIn K cdt10 "require_order" = true)
    (kt10 : PySem.W.keepIn K (.ref ft10) = true)
    (at11 : PySem.W.nsIn K mainGlobals "are_places" = some (some (.ref ft11)))
    (lt11 : K.lookup ft11 = some ⟨oct11, odt11, .func (PySem.W.fnOf "are_places" "are_places" (defArgs (topS 23)) (defBody (topS 23)) (defScope (topS 23)) .none kVt11 dct11 pmt11 ant11 cdt11 ctt11), slt11⟩)
    (ct11 : PySem.W.codeIn K cdt11 "are_places" = true)
    (kt11 : PySem.W.keepIn K (.ref ft11) = true)
    (at12 : PySem.W.nsIn K mainGlobals "is_walked" = some (some (.ref ft12)))
    (lt12 : K.lookup ft12 = some ⟨oct12, odt12, .func (PySem.W.fnOf "is_walked" "is_walked" (defArgs (topS 24)) (defBody (topS 24)) (defScope (topS 24)) .none kVt12 dct12 pmt12 ant12 cdt12 ctt12), slt12⟩)
    (ct12 : PySem.W.codeIn K cdt12 "is_walked" = true)
    (kt12 : PySem.W.keepIn K (.ref ft12) = true)
    (at13 : PySem.W.nsIn K mainGlobals "next_places" = some (some (.ref ft13)))
    (lt13 : K.lookup ft13 = some ⟨oct13, odt13, .func (PySem.W.fnOf "next_places" "next_places" (defArgs (topS 25)) (defBody (topS 25)) (defScope (topS 25)) .none kVt13 dct13 pmt13 ant13 cdt13 ctt13), slt13⟩)
    (ct13 : PySem.W.codeIn K cdt13 "next_places" = true)
    (kt13 : PySem.W.keepIn K (.ref ft13) = true)
    (at14 : PySem.W.nsIn K mainGlobals "moved" = some (some (.ref ft14)))
    (lt14 : K.lookup ft14 = some ⟨oct14, odt14, .func (PySem.W.fnOf "moved" "moved" (defArgs (topS 26)) (defBody (topS 26)) (defScope (topS 26)) .none kVt14 dct14 pmt14 ant14 cdt14 ctt14), slt14⟩)
    (ct14 : PySem.W.codeIn K cdt14 "moved" = true)
    (kt14 : PySem.W.keepIn K (.ref ft14) = true)
    (at15 : PySem.W.nsIn K mainGlobals "are_whole_rows" = some (some (.ref ft15)))
    (lt15 : K.lookup ft15 = some ⟨oct15, odt15, .func (PySem.W.fnOf "are_whole_rows" "are_whole_rows" (defArgs (topS 33)) (defBody (topS 33)) (defScope (topS 33)) .none kVt15 dct15 pmt15 ant15 cdt15 ctt15), slt15⟩)
    (ct15 : PySem.W.codeIn K cdt15 "are_whole_rows" = true)
    (kt15 : PySem.W.keepIn K (.ref ft15) = true)
    (at16 : PySem.W.nsIn K mainGlobals "put_behind" = some (some (.ref ft16)))
    (lt16 : K.lookup ft16 = some ⟨oct16, odt16, .func (PySem.W.fnOf "put_behind" "put_behind" (defArgs (topS 34)) (defBody (topS 34)) (defScope (topS 34)) .none kVt16 dct16 pmt16 ant16 cdt16 ctt16), slt16⟩)
    (ct16 : PySem.W.codeIn K cdt16 "put_behind" = true)
    (kt16 : PySem.W.keepIn K (.ref ft16) = true)
    (at17 : PySem.W.nsIn K mainGlobals "led_rows" = some (some (.ref ft17)))
    (lt17 : K.lookup ft17 = some ⟨oct17, odt17, .func (PySem.W.fnOf "led_rows" "led_rows" (defArgs (topS 35)) (defBody (topS 35)) (defScope (topS 35)) .none kVt17 dct17 pmt17 ant17 cdt17 ctt17), slt17⟩)
    (ct17 : PySem.W.codeIn K cdt17 "led_rows" = true)
    (kt17 : PySem.W.keepIn K (.ref ft17) = true)
    (at18 : PySem.W.nsIn K mainGlobals "is_kinds" = some (some (.ref ft18)))
    (lt18 : K.lookup ft18 = some ⟨oct18, odt18, .func (PySem.W.fnOf "is_kinds" "is_kinds" (defArgs (topS 36)) (defBody (topS 36)) (defScope (topS 36)) .none kVt18 dct18 pmt18 ant18 cdt18 ctt18), slt18⟩)
    (ct18 : PySem.W.codeIn K cdt18 "is_kinds" = true)
    (kt18 : PySem.W.keepIn K (.ref ft18) = true)
    (at19 : PySem.W.nsIn K mainGlobals "rows_along" = some (some (.ref ft19)))
    (lt19 : K.lookup ft19 = some ⟨oct19, odt19, .func (PySem.W.fnOf "rows_along" "rows_along" (defArgs (topS 37)) (defBody (topS 37)) (defScope (topS 37)) .none kVt19 dct19 pmt19 ant19 cdt19 ctt19), slt19⟩)
    (ct19 : PySem.W.codeIn K cdt19 "rows_along" = true)
    (kt19 : PySem.W.keepIn K (.ref ft19) = true)
    (at20 : PySem.W.nsIn K mainGlobals "rows_behind" = some (some (.ref ft20)))
    (lt20 : K.lookup ft20 = some ⟨oct20, odt20, .func (PySem.W.fnOf "rows_behind" "rows_behind" (defArgs (topS 38)) (defBody (topS 38)) (defScope (topS 38)) .none kVt20 dct20 pmt20 ant20 cdt20 ctt20), slt20⟩)
    (ct20 : PySem.W.codeIn K cdt20 "rows_behind" = true)
    (kt20 : PySem.W.keepIn K (.ref ft20) = true)
    (at21 : PySem.W.nsIn K mainGlobals "require_course" = some (some (.ref ft21)))
    (lt21 : K.lookup ft21 = some ⟨oct21, odt21, .func (PySem.W.fnOf "require_course" "require_course" (defArgs (topS 39)) (defBody (topS 39)) (defScope (topS 39)) .none kVt21 dct21 pmt21 ant21 cdt21 ctt21), slt21⟩)
    (ct21 : PySem.W.codeIn K cdt21 "require_course" = true)
    (kt21 : PySem.W.keepIn K (.ref ft21) = true)
    (at22 : PySem.W.nsIn K mainGlobals "order_behind" = some (some (.ref ft22)))
    (lt22 : K.lookup ft22 = some ⟨oct22, odt22, .func (PySem.W.fnOf "order_behind" "order_behind" (defArgs (topS 40)) (defBody (topS 40)) (defScope (topS 40)) .none kVt22 dct22 pmt22 ant22 cdt22 ctt22), slt22⟩)
    (ct22 : PySem.W.codeIn K cdt22 "order_behind" = true)
    (kt22 : PySem.W.keepIn K (.ref ft22) = true)
    (at23 : PySem.W.nsIn K mainGlobals "_law_mixed" = some (some (.ref ft23)))
    (lt23 : K.lookup ft23 = some ⟨oct23, odt23, .func (PySem.W.fnOf "_law_mixed" "_law_mixed" (defArgs (topS 45)) (defBody (topS 45)) (defScope (topS 45)) .none kVt23 dct23 pmt23 ant23 cdt23 ctt23), slt23⟩)
    (ct23 : PySem.W.codeIn K cdt23 "_law_mixed" = true)
    (kt23 : PySem.W.keepIn K (.ref ft23) = true)
    (at24 : PySem.W.nsIn K mainGlobals "_law_names_drawn" = some (some (.ref ft24)))
    (lt24 : K.lookup ft24 = some ⟨oct24, odt24, .func (PySem.W.fnOf "_law_names_drawn" "_law_names_drawn" (defArgs (topS 46)) (defBody (topS 46)) (defScope (topS 46)) .none kVt24 dct24 pmt24 ant24 cdt24 ctt24), slt24⟩)
    (ct24 : PySem.W.codeIn K cdt24 "_law_names_drawn" = true)
    (kt24 : PySem.W.keepIn K (.ref ft24) = true)
    (at25 : PySem.W.nsIn K mainGlobals "_law_is_whole" = some (some (.ref ft25)))
    (lt25 : K.lookup ft25 = some ⟨oct25, odt25, .func (PySem.W.fnOf "_law_is_whole" "_law_is_whole" (defArgs (topS 47)) (defBody (topS 47)) (defScope (topS 47)) .none kVt25 dct25 pmt25 ant25 cdt25 ctt25), slt25⟩)
    (ct25 : PySem.W.codeIn K cdt25 "_law_is_whole" = true)
    (kt25 : PySem.W.keepIn K (.ref ft25) = true)
    (at26 : PySem.W.nsIn K mainGlobals "_law_rows_drawn" = some (some (.ref ft26)))
    (lt26 : K.lookup ft26 = some ⟨oct26, odt26, .func (PySem.W.fnOf "_law_rows_drawn" "_law_rows_drawn" (defArgs (topS 48)) (defBody (topS 48)) (defScope (topS 48)) .none kVt26 dct26 pmt26 ant26 cdt26 ctt26), slt26⟩)
    (ct26 : PySem.W.codeIn K cdt26 "_law_rows_drawn" = true)
    (kt26 : PySem.W.keepIn K (.ref ft26) = true)
    (at27 : PySem.W.nsIn K mainGlobals "_law_moved_places" = some (some (.ref ft27)))
    (lt27 : K.lookup ft27 = some ⟨oct27, odt27, .func (PySem.W.fnOf "_law_moved_places" "_law_moved_places" (defArgs (topS 49)) (defBody (topS 49)) (defScope (topS 49)) .none kVt27 dct27 pmt27 ant27 cdt27 ctt27), slt27⟩)
    (ct27 : PySem.W.codeIn K cdt27 "_law_moved_places" = true)
    (kt27 : PySem.W.keepIn K (.ref ft27) = true)
    (at28 : PySem.W.nsIn K mainGlobals "_law_places_of" = some (some (.ref ft28)))
    (lt28 : K.lookup ft28 = some ⟨oct28, odt28, .func (PySem.W.fnOf "_law_places_of" "_law_places_of" (defArgs (topS 50)) (defBody (topS 50)) (defScope (topS 50)) .none kVt28 dct28 pmt28 ant28 cdt28 ctt28), slt28⟩)
    (ct28 : PySem.W.codeIn K cdt28 "_law_places_of" = true)
    (kt28 : PySem.W.keepIn K (.ref ft28) = true)
    (at29 : PySem.W.nsIn K mainGlobals "_law_walk_drawn" = some (some (.ref ft29)))
    (lt29 : K.lookup ft29 = some ⟨oct29, odt29, .func (PySem.W.fnOf "_law_walk_drawn" "_law_walk_drawn" (defArgs (topS 51)) (defBody (topS 51)) (defScope (topS 51)) .none kVt29 dct29 pmt29 ant29 cdt29 ctt29), slt29⟩)
    (ct29 : PySem.W.codeIn K cdt29 "_law_walk_drawn" = true)
    (kt29 : PySem.W.keepIn K (.ref ft29) = true)
    (at30 : PySem.W.nsIn K mainGlobals "_law_by_rule" = some (some (.ref ft30)))
    (lt30 : K.lookup ft30 = some ⟨oct30, odt30, .func (PySem.W.fnOf "_law_by_rule" "_law_by_rule" (defArgs (topS 52)) (defBody (topS 52)) (defScope (topS 52)) .none kVt30 dct30 pmt30 ant30 cdt30 ctt30), slt30⟩)
    (ct30 : PySem.W.codeIn K cdt30 "_law_by_rule" = true)
    (kt30 : PySem.W.keepIn K (.ref ft30) = true)
    (at31 : PySem.W.nsIn K mainGlobals "_law_turns_back" = some (some (.ref ft31)))
    (lt31 : K.lookup ft31 = some ⟨oct31, odt31, .func (PySem.W.fnOf "_law_turns_back" "_law_turns_back" (defArgs (topS 53)) (defBody (topS 53)) (defScope (topS 53)) .none kVt31 dct31 pmt31 ant31 cdt31 ctt31), slt31⟩)
    (ct31 : PySem.W.codeIn K cdt31 "_law_turns_back" = true)
    (kt31 : PySem.W.keepIn K (.ref ft31) = true)
    (at32 : PySem.W.nsIn K mainGlobals "_law_walk_right" = some (some (.ref ft32)))
    (lt32 : K.lookup ft32 = some ⟨oct32, odt32, .func (PySem.W.fnOf "_law_walk_right" "_law_walk_right" (defArgs (topS 54)) (defBody (topS 54)) (defScope (topS 54)) .none kVt32 dct32 pmt32 ant32 cdt32 ctt32), slt32⟩)
    (ct32 : PySem.W.codeIn K cdt32 "_law_walk_right" = true)
    (kt32 : PySem.W.keepIn K (.ref ft32) = true)
    (at33 : PySem.W.nsIn K mainGlobals "law" = some (some (.ref ft33)))
    (lt33 : K.lookup ft33 = some ⟨oct33, odt33, .func (PySem.W.fnOf "law" "law" (defArgs (topS 55)) (defBody (topS 55)) (defScope (topS 55)) .none kVt33 dct33 pmt33 ant33 cdt33 ctt33), slt33⟩)
    (ct33 : PySem.W.codeIn K cdt33 "law" = true)
    (kt33 : PySem.W.keepIn K (.ref ft33) = true)
    (gEVEN : PySem.W.nsIn K mainGlobals "EVEN" = some (some (.str "even" tkEVEN)))
    (gKINDS : PySem.W.nsIn K mainGlobals "KINDS" = some (some (.ref cKINDS)))
    (lKINDS : K.lookup cKINDS = some ⟨.type "tuple", odKINDS, .seq #[.str "upper" tKINDS_0, .str "lower" tKINDS_1, .str "even" tKINDS_2] nKINDS, slKINDS⟩)
    (gLETTERS : PySem.W.nsIn K mainGlobals "LETTERS" = some (some (.str "abcdefghijklmnopqrstuvwxyz" tkLETTERS)))
    (gLOWER : PySem.W.nsIn K mainGlobals "LOWER" = some (some (.str "lower" tkLOWER)))
    (gMAX_COURSE : PySem.W.nsIn K mainGlobals "MAX_COURSE" = some (some (.int 4000 tkMAX_COURSE)))
    (gMAX_LETTERS : PySem.W.nsIn K mainGlobals "MAX_LETTERS" = some (some (.int 8 tkMAX_LETTERS)))
    (gMAX_NAMES : PySem.W.nsIn K mainGlobals "MAX_NAMES" = some (some (.int 40 tkMAX_NAMES)))
    (gMAX_PLACES : PySem.W.nsIn K mainGlobals "MAX_PLACES" = some (some (.int 40 tkMAX_PLACES)))
    (gUPPER : PySem.W.nsIn K mainGlobals "UPPER" = some (some (.str "upper" tkUPPER)))
    (gWALKED : PySem.W.nsIn K mainGlobals "WALKED" = some (some (.ref cWALKED)))
    (lWALKED : K.lookup cWALKED = some ⟨.type "tuple", odWALKED, .seq #[.str "upper" tWALKED_0, .str "lower" tWALKED_1] nWALKED, slWALKED⟩)
    : ∀ base : Heap, K.In base → base.Ns mainGlobals mg → FnG prog w K mg base 13 fa 1 (spLaw K) := by
  have e := hfa.symm.trans (PySem.W.mg_of X G at33)
  cases e
  intro base _ _
  have fr : Free mg := ⟨PySem.W.mg_none_of X G z_abs, PySem.W.mg_none_of X G z_all, PySem.W.mg_none_of X G z_bool, PySem.W.mg_none_of X G z_dict, PySem.W.mg_none_of X G z_enumerate, PySem.W.mg_none_of X G z_int, PySem.W.mg_none_of X G z_isinstance, PySem.W.mg_none_of X G z_len, PySem.W.mg_none_of X G z_list, PySem.W.mg_none_of X G z_max, PySem.W.mg_none_of X G z_min, PySem.W.mg_none_of X G z_range, PySem.W.mg_none_of X G z_set, PySem.W.mg_none_of X G z_sorted, PySem.W.mg_none_of X G z_str, PySem.W.mg_none_of X G z_tuple, PySem.W.mg_none_of X G z_zip⟩
  have OCO : OdT K CO := ⟨fun t ht => by
    simp only [List.mem_cons, List.not_mem_nil, or_false] at ht
    rcases ht with rfl | rfl | rfl | rfl | rfl | rfl | rfl
    · exact ⟨kit_own rfl icCO tyCO suCO_int, nf_of suCO_int⟩
    · exact ⟨kit_own rfl icCO tyCO suCO_bool, nf_of suCO_bool⟩
    · exact ⟨kit_own rfl icCO tyCO suCO_str, nf_of suCO_str⟩
    · exact ⟨kit_own rfl icCO tyCO suCO_NoneType, nf_of suCO_NoneType⟩
    · exact ⟨kit_own rfl icCO tyCO suCO_list, nf_of suCO_list⟩
    · exact ⟨kit_own rfl icCO tyCO suCO_tuple, nf_of suCO_tuple⟩
    · exact ⟨kit_own rfl icCO tyCO suCO_dict, nf_of suCO_dict⟩⟩
  have T : OTx K mg CO := ⟨PySem.W.mg_of X G aCO, ⟨pgCO, icCO, poCO, saCO⟩, ⟨caCO, cn, ct, cmCO⟩, kit_self, OCO,
    ⟨_, saCOown_is_whole, sgCOown_is_whole, stCOown_is_whole, syCOown_is_whole, sxCOown_is_whole, by decide⟩, ⟨_, saCOown_lower, sgCOown_lower, stCOown_lower, syCOown_lower, sxCOown_lower, by decide⟩, ⟨_, saCOown_lower_at, sgCOown_lower_at, stCOown_lower_at, syCOown_lower_at, sxCOown_lower_at, by decide⟩, ⟨_, saCOown_names, sgCOown_names, stCOown_names, syCOown_names, sxCOown_names, by decide⟩, ⟨_, saCOown_needless, sgCOown_needless, stCOown_needless, syCOown_needless, sxCOown_needless, by decide⟩, ⟨_, saCOown_places, sgCOown_places, stCOown_places, syCOown_places, sxCOown_places, by decide⟩, ⟨_, saCOown_text, sgCOown_text, stCOown_text, syCOown_text, sxCOown_text, by decide⟩, ⟨_, saCOown_upper, sgCOown_upper, stCOown_upper, syCOown_upper, sxCOown_upper, by decide⟩, ⟨_, saCOown_upper_at, sgCOown_upper_at, stCOown_upper_at, syCOown_upper_at, sxCOown_upper_at, by decide⟩⟩
  have Ft0 := fun_mk (st := topS 42) lt0 ct0 kt0
  have Bt0 := Ft0.binds (ps := ["_law_script", "_law_spot"]) fun _ _ _ _ _ _ us hl => match us, hl with | [_, _], _ => rfl
  have G__law_dice : GD prog w K mg base "_law_dice" 2 (spDice K) := ⟨_, _, _, PySem.W.mg_of X G at0, kt0, Bt0, PF.ok_dice Ft0 fr⟩
  have Ft1 := fun_mk (st := topS 43) lt1 ct1 kt1
  have Bt1 := Ft1.binds (ps := ["_law_dice_here", "_law_total"]) fun _ _ _ _ _ _ us hl => match us, hl with | [_, _], _ => rfl
  have G__law_roll : GD prog w K mg base "_law_roll" 2 spRoll := ⟨_, _, _, PySem.W.mg_of X G at1, kt1, Bt1, PF.ok_roll Ft1 fr⟩
  have Ft2 := fun_mk (st := topS 44) lt2 ct2 kt2
  have Bt2 := Ft2.binds (ps := ["_law_dice_here", "_law_items"]) fun _ _ _ _ _ _ us hl => match us, hl with | [_, _], _ => rfl
  have G__law_pick : GD prog w K mg base "_law_pick" 3 spPick := ⟨_, _, _, PySem.W.mg_of X G at2, kt2, Bt2, PF.ok_pick Ft2 fr G__law_roll⟩
  have Ft3 := fun_mk (st := topS 10) lt3 ct3 kt3
  have Bt3 := Ft3.binds (ps := ["value"]) fun _ _ _ _ _ _ us hl => match us, hl with | [_], _ => rfl
  have G_is_name : GD prog w K mg base "is_name" 2 (spOf (aCons rStr aNil) rBl m_is_name) := ⟨_, _, _, PySem.W.mg_of X G at3, kt3, Bt3, PF2.ok_is_name Ft3 fr ⟨_, PySem.W.mg_of X G gMAX_LETTERS⟩ ⟨_, PySem.W.mg_of X G gLETTERS⟩⟩
  have Ft4 := fun_mk (st := topS 13) lt4 ct4 kt4
  have Bt4 := Ft4.binds (ps := ["value"]) fun _ _ _ _ _ _ us hl => match us, hl with | [_], _ => rfl
  have G_is_row : GD prog w K mg base "is_row" 3 (spOf (aCons (rTup K rStr) aNil) rBl m_is_row) := ⟨_, _, _, PySem.W.mg_of X G at4, kt4, Bt4, PF2.ok_is_row Ft4 fr ⟨_, PySem.W.mg_of X G gMAX_NAMES⟩ G_is_name⟩
  have Ft5 := fun_mk (st := topS 14) lt5 ct5 kt5
  have Bt5 := Ft5.binds (ps := ["places"]) fun _ _ _ _ _ _ us hl => match us, hl with | [_], _ => rfl
  have G_block_ends : GD prog w K mg base "block_ends" 2 (spOf (aCons (rTup K rInt) aNil) (rLs rInt) m_block_ends) := ⟨_, _, _, PySem.W.mg_of X G at5, kt5, Bt5, PF2.ok_block_ends Ft5 fr⟩
  have Ft6 := fun_mk (st := topS 15) lt6 ct6 kt6
  have Bt6 := Ft6.binds (ps := ["text"]) fun _ _ _ _ _ _ us hl => match us, hl with | [_], _ => rfl
  have G_row_in : GD prog w K mg base "row_in" 4 (spOf (aCons rStr aNil) (rOpt (rTup K rStr)) m_row_in) := ⟨_, _, _, PySem.W.mg_of X G at6, kt6, Bt6, PF2.ok_row_in Ft6 fr G_is_row⟩
  have Ft7 := fun_mk (st := topS 16) lt7 ct7 kt7
  have Bt7 := Ft7.binds (ps := ["upper", "places"]) fun _ _ _ _ _ _ us hl => match us, hl with | [_, _], _ => rfl
  have G_needless_in : GD prog w K mg base "needless_in" 2 (spOf (aCons (rTup K rStr) (aCons (rDct Sum.inr rInt) aNil)) (rTup K (rTx K (aCons rStr (aCons rStr aNil)))) m_needless_in) := ⟨_, _, _, PySem.W.mg_of X G at7, kt7, Bt7, PF2.ok_needless_in Ft7 fr⟩
  have FiniCO := fun_mk (st := (inClass (topS 17) 1)) liniCO ciniCO kiniCO
  have BiniCO := FiniCO.binds (ps := ["self", "upper", "lower"]) fun _ _ _ _ _ _ us hl => match us, hl with | [_, _, _], _ => rfl
  have G_Order : GM prog w K mg base "Order" CO 4 [] (spOfI CO (aCons (rTup K rStr) (aCons (rTup K rStr) aNil)) (rObj CO (vVal rBl (vVal (rTup K rStr) (vVal (rDct Sum.inr rInt) (vVal (rTup K rStr) (vVal (rTup K (rTx K (aCons rStr (aCons rStr aNil)))) (vVal (rTup K rInt) (vVal rStr (vVal (rTup K rStr) (vVal (rDct Sum.inr rInt) vNil)))))))))) m_Order___init__) := ⟨_, _, _, _, PySem.W.mg_of X G aCO, ⟨mkCO, ainiCO, iiniCO, kcCO⟩, BiniCO, .nil, PF2.ok_Order___init__ FiniCO G_is_row fr T G_block_ends G_needless_in⟩
  have FpCO_above := fun_mk (st := (inClass (topS 17) 3)) lpCO_above cpCO_above kpCO_above
  have BpCO_above := FpCO_above.binds (ps := ["self"]) fun _ _ _ _ _ _ us hl => match us, hl with | [_], _ => rfl
  have P_Order_above : GP prog w K mg base CO "above" 2 (spOf (aCons (rOrd K CO) aNil) (rTup K rStr) m_Order_above) := ⟨_, _, apCO_above, spCO_above, tpCO_above, ⟨_, rpCO_above⟩, fnR_of (PF2.ok_Order_above FpCO_above T) BpCO_above⟩
  have FpCO_below := fun_mk (st := (inClass (topS 17) 4)) lpCO_below cpCO_below kpCO_below
  have BpCO_below := FpCO_below.binds (ps := ["self"]) fun _ _ _ _ _ _ us hl => match us, hl with | [_], _ => rfl
  have P_Order_below : GP prog w K mg base CO "below" 2 (spOf (aCons (rOrd K CO) aNil) (rTup K rStr) m_Order_below) := ⟨_, _, apCO_below, spCO_below, tpCO_below, ⟨_, rpCO_below⟩, fnR_of (PF2.ok_Order_below FpCO_below T) BpCO_below⟩
  have FpCO_names := fun_mk (st := (inClass (topS 17) 5)) lpCO_names cpCO_names kpCO_names
  have BpCO_names := FpCO_names.binds (ps := ["self"]) fun _ _ _ _ _ _ us hl => match us, hl with | [_], _ => rfl
  have P_Order_names : GP prog w K mg base CO "names" 2 (spOf (aCons (rOrd K CO) aNil) (rTup K rStr) m_Order_names) := ⟨_, _, apCO_names, spCO_names, tpCO_names, ⟨_, rpCO_names⟩, fnR_of (PF2.ok_Order_names FpCO_names T) BpCO_names⟩
  have FpCO_many := fun_mk (st := (inClass (topS 17) 6)) lpCO_many cpCO_many kpCO_many
  have BpCO_many := FpCO_many.binds (ps := ["self"]) fun _ _ _ _ _ _ us hl => match us, hl with | [_], _ => rfl
  have P_Order_many : GP prog w K mg base CO "many" 2 (spOf (aCons (rOrd K CO) aNil) rInt m_Order_many) := ⟨_, _, apCO_many, spCO_many, tpCO_many, ⟨_, rpCO_many⟩, fnR_of (PF2.ok_Order_many FpCO_many T fr) BpCO_many⟩
  have FpCO_places := fun_mk (st := (inClass (topS 17) 7)) lpCO_places cpCO_places kpCO_places
  have BpCO_places := FpCO_places.binds (ps := ["self"]) fun _ _ _ _ _ _ us hl => match us, hl with | [_], _ => rfl
  have P_Order_places : GP prog w K mg base CO "places" 2 (spOf (aCons (rOrd K CO) aNil) (rTup K rInt) m_Order_places) := ⟨_, _, apCO_places, spCO_places, tpCO_places, ⟨_, rpCO_places⟩, fnR_of (PF2.ok_Order_places FpCO_places T) BpCO_places⟩
  have FpCO_is_whole := fun_mk (st := (inClass (topS 17) 8)) lpCO_is_whole cpCO_is_whole kpCO_is_whole
  have BpCO_is_whole := FpCO_is_whole.binds (ps := ["self"]) fun _ _ _ _ _ _ us hl => match us, hl with | [_], _ => rfl
  have P_Order_is_whole : GP prog w K mg base CO "is_whole" 2 (spOf (aCons (rOrd K CO) aNil) rBl m_Order_is_whole) := ⟨_, _, apCO_is_whole, spCO_is_whole, tpCO_is_whole, ⟨_, rpCO_is_whole⟩, fnR_of (PF2.ok_Order_is_whole FpCO_is_whole T) BpCO_is_whole⟩
  have FqCO_len := fun_mk (st := (inClass (topS 17) 16)) lqCO_len cqCO_len kqCO_len
  have BqCO_len := FqCO_len.binds (ps := ["self"]) fun _ _ _ _ _ _ us hl => match us, hl with | [_], _ => rfl
  have Q_Order_len : GQ prog w K mg base "__len__" CO 2 (spOf (aCons (rOrd K CO) aNil) rInt m_Order___len__) := ⟨_, aqCO_len, iqCO_len, fnR_of (PF2.ok_Order___len__ FqCO_len T fr) BqCO_len⟩
  have FqCO_contains := fun_mk (st := (inClass (topS 17) 17)) lqCO_contains cqCO_contains kqCO_contains
  have BqCO_contains := FqCO_contains.binds (ps := ["self", "value"]) fun _ _ _ _ _ _ us hl => match us, hl with | [_, _], _ => rfl
  have Q_Order_contains : GQ prog w K mg base "__contains__" CO 2 (spOf (aCons (rOrd K CO) (aCons (rSx K) aNil)) rBl m_Order___contains__) := ⟨_, aqCO_contains, iqCO_contains, fnR_of (PF2.ok_Order___contains__ FqCO_contains fr T) BqCO_contains⟩
  have FeqCO := fun_mk (st := (inClass (topS 17) 19)) leqCO ceqCO keqCO
  have BeqCO := FeqCO.binds (ps := ["self", "other"]) fun _ _ _ _ _ _ us hl => match us, hl with | [_, _], _ => rfl
  have G_Order_eq : GE prog w K mg base CO 2 (spOf (aCons (rOrd K CO) (aCons (rOr K CO (rOrd K CO)) aNil)) rBl m_Order___eq__) := ⟨⟨_, aeqCO, ieqCO, fnR_of (PF2.ok_Order___eq__ FeqCO T fr) BeqCO⟩, neCO, cmCO⟩
  have FstrCO := fun_mk (st := (inClass (topS 17) 20)) lstrCO cstrCO kstrCO
  have BstrCO := FstrCO.binds (ps := ["self"]) fun _ _ _ _ _ _ us hl => match us, hl with | [_], _ => rfl
  have S_Order : GS prog w K mg base CO 2 (spOf (aCons (rOrd K CO) aNil) rStr m_Order___str__) := ⟨_, astrCO, istrCO, fnR_of (PF2.ok_Order___str__ FstrCO T fr) BstrCO⟩
  have FcCO_read := fun_mk (st := (inClass (topS 17) 2)) lcCO_read ccCO_read kcCO_read
  have BcCO_read := FcCO_read.binds (ps := ["cls", "upper", "lower"]) fun _ _ _ _ _ _ us hl => match us, hl with | [_, _, _], _ => rfl
  have C_Order_read : GCm prog w K mg base CO "read" 6 (spOf (aCons (rCls CO) (aCons rStr (aCons rStr aNil))) (rOrd K CO) m_Order_read) := ⟨.type "type", _, _, ⟨rdCO, gaCO⟩, ⟨acCO_read, ⟨_, rcCO_read⟩, icCO_read⟩, fnR_of (PF2.ok_Order_read FcCO_read G_row_in G_Order T) BcCO_read⟩
  have FmCO_blocks := fun_mk (st := (inClass (topS 17) 10)) lmCO_blocks cmCO_blocks kmCO_blocks
  have BmCO_blocks := FmCO_blocks.binds (ps := ["self"]) fun _ _ _ _ _ _ us hl => match us, hl with | [_], _ => rfl
  have M_Order_blocks : GMe prog w K mg base CO "blocks" 6 (spOf (aCons (rOrd K CO) aNil) (rTup K (rOrd K CO)) m_Order_blocks) := ⟨_, ⟨amCO_blocks, imCO_blocks, kmCO_blocks⟩, fnR_of (PF2.ok_Order_blocks FmCO_blocks T G_block_ends G_Order fr) BmCO_blocks⟩
  have Ft8 := fun_mk (st := topS 18) lt8 ct8 kt8
  have Bt8 := Ft8.binds (ps := ["order", "value"]) fun _ _ _ _ _ _ us hl => match us, hl with | [_, _], _ => rfl
  have G_is_naming_of : GD prog w K mg base "is_naming_of" 3 (spOf (aCons (rOrd K CO) (aCons (rDct Sum.inr rStr) aNil)) rBl m_is_naming_of) := ⟨_, _, _, PySem.W.mg_of X G at8, kt8, Bt8, PF2.ok_is_naming_of Ft8 fr T Q_Order_contains G_is_name⟩
  have FmCO_renamed := fun_mk (st := (inClass (topS 17) 14)) lmCO_renamed cmCO_renamed kmCO_renamed
  have BmCO_renamed := FmCO_renamed.binds (ps := ["self", "names"]) fun _ _ _ _ _ _ us hl => match us, hl with | [_, _], _ => rfl
  have M_Order_renamed : GMe prog w K mg base CO "renamed" 6 (spOf (aCons (rOrd K CO) (aCons (rDct Sum.inr rStr) aNil)) (rOrd K CO) m_Order_renamed) := ⟨_, ⟨amCO_renamed, imCO_renamed, kmCO_renamed⟩, fnR_of (PF2.ok_Order_renamed FmCO_renamed G_is_naming_of T fr G_Order) BmCO_renamed⟩
  have Ft9 := fun_mk (st := topS 9) lt9 ct9 kt9
  have Bt9 := Ft9.binds (ps := ["value"]) fun _ _ _ _ _ _ us hl => match us, hl with | [_], _ => rfl
  have G_is_whole : GD prog w K mg base "is_whole" 2 (spOf (aCons rInt aNil) rBl m_is_whole) := ⟨_, _, _, PySem.W.mg_of X G at9, kt9, Bt9, PF2.ok_is_whole Ft9 fr⟩
  have Ft10 := fun_mk (st := topS 19) lt10 ct10 kt10
  have Bt10 := Ft10.binds (ps := ["value"]) fun _ _ _ _ _ _ us hl => match us, hl with | [_], _ => rfl
  have G_require_order : GD prog w K mg base "require_order" 2 (spOf (aCons (rOrd K CO) aNil) rNon m_require_order) := ⟨_, _, _, PySem.W.mg_of X G at10, kt10, Bt10, PF2.ok_require_order Ft10 T fr⟩
  have Ft11 := fun_mk (st := topS 23) lt11 ct11 kt11
  have Bt11 := Ft11.binds (ps := ["value", "most"]) fun _ _ _ _ _ _ us hl => match us, hl with | [_, _], _ => rfl
  have G_are_places : GD prog w K mg base "are_places" 3 (spOf (aCons (rTpd rInt) (aCons rInt aNil)) rBl m_are_places) := ⟨_, _, _, PySem.W.mg_of X G at11, kt11, Bt11, PF2.ok_are_places Ft11 fr G_is_whole⟩
  have Ft12 := fun_mk (st := topS 24) lt12 ct12 kt12
  have Bt12 := Ft12.binds (ps := ["value"]) fun _ _ _ _ _ _ us hl => match us, hl with | [_], _ => rfl
  have G_is_walked : GD prog w K mg base "is_walked" 2 (spOf (aCons rStr aNil) rBl m_is_walked) := ⟨_, _, _, PySem.W.mg_of X G at12, kt12, Bt12, PF2.ok_is_walked Ft12 fr ⟨_, PySem.W.mg_of X G gWALKED, ⟨_, _, _, lWALKED, rfl, rfl, le_n 2, (.cons ⟨_, rfl⟩ (.cons ⟨_, rfl⟩ .nil))⟩⟩⟩
  have Ft13 := fun_mk (st := topS 25) lt13 ct13 kt13
  have Bt13 := Ft13.binds (ps := ["places", "kind"]) fun _ _ _ _ _ _ us hl => match us, hl with | [_, _], _ => rfl
  have G_next_places : GD prog w K mg base "next_places" 2 (spOf (aCons (rTpd rInt) (aCons rStr aNil)) (rTpd rInt) m_next_places) := ⟨_, _, _, PySem.W.mg_of X G at13, kt13, Bt13, PF2.ok_next_places Ft13 fr⟩
  have Ft14 := fun_mk (st := topS 26) lt14 ct14 kt14
  have Bt14 := Ft14.binds (ps := ["places", "kind"]) fun _ _ _ _ _ _ us hl => match us, hl with | [_, _], _ => rfl
  have G_moved : GD prog w K mg base "moved" 4 (spOf (aCons (rTpd rInt) (aCons rStr aNil)) (rTpd rInt) m_moved) := ⟨_, _, _, PySem.W.mg_of X G at14, kt14, Bt14, PF2.ok_moved Ft14 ⟨_, PySem.W.mg_of X G gMAX_PLACES⟩ G_are_places G_is_walked G_next_places⟩
  have Ft15 := fun_mk (st := topS 33) lt15 ct15 kt15
  have Bt15 := Ft15.binds (ps := ["upper", "lower"]) fun _ _ _ _ _ _ us hl => match us, hl with | [_, _], _ => rfl
  have G_are_whole_rows : GD prog w K mg base "are_whole_rows" 2 (spOf (aCons (rTup K rStr) (aCons (rTup K rStr) aNil)) rBl m_are_whole_rows) := ⟨_, _, _, PySem.W.mg_of X G at15, kt15, Bt15, PF2.ok_are_whole_rows Ft15 fr⟩
  have Ft16 := fun_mk (st := topS 34) lt16 ct16 kt16
  have Bt16 := Ft16.binds (ps := ["row", "name", "other"]) fun _ _ _ _ _ _ us hl => match us, hl with | [_, _, _], _ => rfl
  have G_put_behind : GD prog w K mg base "put_behind" 2 (spOf (aCons (rTup K rStr) (aCons rStr (aCons rStr aNil))) (rTup K rStr) m_put_behind) := ⟨_, _, _, PySem.W.mg_of X G at16, kt16, Bt16, PF2.ok_put_behind Ft16⟩
  have Ft17 := fun_mk (st := topS 35) lt17 ct17 kt17
  have Bt17 := Ft17.binds (ps := ["upper", "lower", "kind"]) fun _ _ _ _ _ _ us hl => match us, hl with | [_, _, _], _ => rfl
  have G_led_rows : GD prog w K mg base "led_rows" 3 (spOf (aCons (rTup K rStr) (aCons (rTup K rStr) (aCons rStr aNil))) (rTx K (aCons (rTup K rStr) (aCons (rTup K rStr) aNil))) m_led_rows) := ⟨_, _, _, PySem.W.mg_of X G at17, kt17, Bt17, PF2.ok_led_rows Ft17 ⟨_, PySem.W.mg_of X G gUPPER⟩ G_put_behind ⟨_, PySem.W.mg_of X G gLOWER⟩ fr⟩
  have Ft18 := fun_mk (st := topS 36) lt18 ct18 kt18
  have Bt18 := Ft18.binds (ps := ["value"]) fun _ _ _ _ _ _ us hl => match us, hl with | [_], _ => rfl
  have G_is_kinds : GD prog w K mg base "is_kinds" 2 (spOf (aCons (rTup K rStr) aNil) rBl m_is_kinds) := ⟨_, _, _, PySem.W.mg_of X G at18, kt18, Bt18, PF2.ok_is_kinds Ft18 fr ⟨_, PySem.W.mg_of X G gMAX_COURSE⟩ ⟨_, PySem.W.mg_of X G gKINDS, ⟨_, _, _, lKINDS, rfl, rfl, le_n 3, (.cons ⟨_, rfl⟩ (.cons ⟨_, rfl⟩ (.cons ⟨_, rfl⟩ .nil)))⟩⟩⟩
  have Ft19 := fun_mk (st := topS 37) lt19 ct19 kt19
  have Bt19 := Ft19.binds (ps := ["upper", "lower", "course"]) fun _ _ _ _ _ _ us hl => match us, hl with | [_, _, _], _ => rfl
  have G_rows_along : GG2 prog w K mg base "rows_along" 4 (spOfG (aCons (rTup K rStr) (aCons (rTup K rStr) (aCons (rTup K rStr) aNil))) (rOpt (rTx K (aCons (rTup K rStr) (aCons (rTup K rStr) aNil)))) m_rows_along) := ⟨_, _, _, PySem.W.mg_of X G at19, kt19, Bt19, PF2.ok_rows_along Ft19 G_are_whole_rows G_led_rows ⟨_, PySem.W.mg_of X G gEVEN⟩⟩
  have Ft20 := fun_mk (st := topS 38) lt20 ct20 kt20
  have Bt20 := Ft20.binds (ps := ["upper", "lower", "course"]) fun _ _ _ _ _ _ us hl => match us, hl with | [_, _, _], _ => rfl
  have G_rows_behind : GD prog w K mg base "rows_behind" 8 (spOf (aCons (rTup K rStr) (aCons (rTup K rStr) (aCons (rTup K rStr) aNil))) (rOpt (rTx K (aCons (rTup K rStr) (aCons (rTup K rStr) aNil)))) m_rows_behind) := ⟨_, _, _, PySem.W.mg_of X G at20, kt20, Bt20, PF2.ok_rows_behind Ft20 G_rows_along⟩
  have Ft21 := fun_mk (st := topS 39) lt21 ct21 kt21
  have Bt21 := Ft21.binds (ps := ["order", "value"]) fun _ _ _ _ _ _ us hl => match us, hl with | [_, _], _ => rfl
  have G_require_course : GD prog w K mg base "require_course" 9 (spOf (aCons (rOrd K CO) (aCons (rTup K rStr) aNil)) (rTx K (aCons (rTup K rStr) (aCons (rTup K rStr) aNil))) m_require_course) := ⟨_, _, _, PySem.W.mg_of X G at21, kt21, Bt21, PF2.ok_require_course Ft21 G_is_kinds T P_Order_above P_Order_below G_rows_behind⟩
  have Ft22 := fun_mk (st := topS 40) lt22 ct22 kt22
  have Bt22 := Ft22.binds (ps := ["order", "course"]) fun _ _ _ _ _ _ us hl => match us, hl with | [_, _], _ => rfl
  have G_order_behind : GD prog w K mg base "order_behind" 10 (spOf (aCons (rOrd K CO) (aCons (rTup K rStr) aNil)) (rOrd K CO) m_order_behind) := ⟨_, _, _, PySem.W.mg_of X G at22, kt22, Bt22, PF2.ok_order_behind Ft22 G_require_order G_require_course G_Order⟩
  have Ft23 := fun_mk (st := topS 45) lt23 ct23 kt23
  have Bt23 := Ft23.binds (ps := ["_law_dice_here", "_law_items"]) fun _ _ _ _ _ _ us hl => match us, hl with | [_, _], _ => rfl
  have G__law_mixed : GD prog w K mg base "_law_mixed" 3 (spOfD (aCons (rLs rStr) aNil) (rLs rStr) m__law_mixed) := ⟨_, _, _, PySem.W.mg_of X G at23, kt23, Bt23, PF2.ok__law_mixed Ft23 fr G__law_roll⟩
  have Ft24 := fun_mk (st := topS 46) lt24 ct24 kt24
  have Bt24 := Ft24.binds (ps := ["_law_dice_here", "_law_times"]) fun _ _ _ _ _ _ us hl => match us, hl with | [_, _], _ => rfl
  have G__law_names_drawn : GD prog w K mg base "_law_names_drawn" 4 (spOfD (aCons rInt aNil) (rLs rStr) m__law_names_drawn) := ⟨_, _, _, PySem.W.mg_of X G at24, kt24, Bt24, PF2.ok__law_names_drawn Ft24 G__law_mixed⟩
  have Ft25 := fun_mk (st := topS 47) lt25 ct25 kt25
  have Bt25 := Ft25.binds (ps := ["_law_upper", "_law_lower"]) fun _ _ _ _ _ _ us hl => match us, hl with | [_, _], _ => rfl
  have G__law_is_whole : GD prog w K mg base "_law_is_whole" 2 (spOf (aCons (rLs rStr) (aCons (rLs rStr) aNil)) rBl m__law_is_whole) := ⟨_, _, _, PySem.W.mg_of X G at25, kt25, Bt25, PF2.ok__law_is_whole Ft25 fr⟩
  have Ft26 := fun_mk (st := topS 48) lt26 ct26 kt26
  have Bt26 := Ft26.binds (ps := ["_law_dice_here", "_law_times"]) fun _ _ _ _ _ _ us hl => match us, hl with | [_, _], _ => rfl
  have G__law_rows_drawn : GD prog w K mg base "_law_rows_drawn" 5 (spOfD (aCons rInt aNil) (rTx K (aCons (rLs rStr) (aCons (rLs rStr) aNil))) m__law_rows_drawn) := ⟨_, _, _, PySem.W.mg_of X G at26, kt26, Bt26, PF2.ok__law_rows_drawn Ft26 G__law_names_drawn G__law_roll fr G__law_mixed G__law_is_whole⟩
  have Ft27 := fun_mk (st := topS 49) lt27 ct27 kt27
  have Bt27 := Ft27.binds (ps := ["_law_places", "_law_kind"]) fun _ _ _ _ _ _ us hl => match us, hl with | [_, _], _ => rfl
  have G__law_moved_places : GD prog w K mg base "_law_moved_places" 2 (spOf (aCons (rTpd rInt) (aCons rStr aNil)) (rTpd rInt) m__law_moved_places) := ⟨_, _, _, PySem.W.mg_of X G at27, kt27, Bt27, PF2.ok__law_moved_places Ft27 fr⟩
  have Ft28 := fun_mk (st := topS 50) lt28 ct28 kt28
  have Bt28 := Ft28.binds (ps := ["_law_upper", "_law_lower"]) fun _ _ _ _ _ _ us hl => match us, hl with | [_, _], _ => rfl
  have G__law_places_of : GD prog w K mg base "_law_places_of" 2 (spOf (aCons (rLs rStr) (aCons (rLs rStr) aNil)) (rTpd rInt) m__law_places_of) := ⟨_, _, _, PySem.W.mg_of X G at28, kt28, Bt28, PF2.ok__law_places_of Ft28 fr⟩
  have Ft29 := fun_mk (st := topS 51) lt29 ct29 kt29
  have Bt29 := Ft29.binds (ps := ["_law_dice_here", "_law_times"]) fun _ _ _ _ _ _ us hl => match us, hl with | [_, _], _ => rfl
  have G__law_walk_drawn : GD prog w K mg base "_law_walk_drawn" 4 (spOfD (aCons rInt aNil) (rTup K rStr) m__law_walk_drawn) := ⟨_, _, _, PySem.W.mg_of X G at29, kt29, Bt29, PF2.ok__law_walk_drawn Ft29 fr G__law_pick⟩
  have Ft30 := fun_mk (st := topS 52) lt30 ct30 kt30
  have Bt30 := Ft30.binds (ps := ["_law_places", "_law_kind"]) fun _ _ _ _ _ _ us hl => match us, hl with | [_, _], _ => rfl
  have G__law_by_rule : GD prog w K mg base "_law_by_rule" 2 (spOf (aCons (rTpd rInt) (aCons rStr aNil)) (rTup K rInt) m__law_by_rule) := ⟨_, _, _, PySem.W.mg_of X G at30, kt30, Bt30, PF2.ok__law_by_rule Ft30 fr⟩
  have Ft31 := fun_mk (st := topS 53) lt31 ct31 kt31
  have Bt31 := Ft31.binds (ps := ["_law_places", "_law_kind"]) fun _ _ _ _ _ _ us hl => match us, hl with | [_, _], _ => rfl
  have G__law_turns_back : GD prog w K mg base "_law_turns_back" 5 (spOf (aCons (rTpd rInt) (aCons rStr aNil)) rBl m__law_turns_back) := ⟨_, _, _, PySem.W.mg_of X G at31, kt31, Bt31, PF2.ok__law_turns_back Ft31 fr G_moved⟩
  have Ft32 := fun_mk (st := topS 54) lt32 ct32 kt32
  have Bt32 := Ft32.binds (ps := ["_law_dice_here"]) fun _ _ _ _ _ _ us hl => match us, hl with | [_], _ => rfl
  have G__law_walk_right : GD prog w K mg base "_law_walk_right" 11 (spOfD aNil rBl m__law_walk_right) := ⟨_, _, _, PySem.W.mg_of X G at32, kt32, Bt32, PF2.ok__law_walk_right Ft32 G__law_roll G__law_rows_drawn fr G_Order G__law_walk_drawn G__law_names_drawn G__law_places_of T P_Order_places G__law_turns_back G__law_moved_places G_moved G__law_by_rule G_order_behind P_Order_is_whole M_Order_renamed G_Order_eq⟩
  have Ft33 := fun_mk (st := topS 55) lt33 ct33 kt33
  have Bt33 := Ft33.binds (ps := ["_law_script"]) fun _ _ _ _ _ _ us hl => match us, hl with | [_], _ => rfl
  exact PF2.ok_law Ft33 Bt33 G__law_dice G__law_walk_right fr G_moved
end PF2
namespace PF
open PySem PySem.Spec PyProof.Rows L2 SlX

theorem walk_k {l : PySem.W.OpenLaw} {n k : Nat} {q : Program} {loose : List Str} {XP : (Str → Option Value) → Heap → Prop} {YP : World → Heap → Prop} {d : DefRec} {K : Params → PySem.W.Frag} {sp : PySem.W.Frag → Sp}
    (hn : l.most = some n) (hn2 : n ≤ sizeLine) (hdf : d.params.defaults = []) (hr : Room k callerA) (hY : ∀ (w : World) (h : Heap), YP w h → (K w.params).In h)
    (hsp : ∀ (K : PySem.W.Frag) (G : Hp) (a : Addr) (ns : List Int), ns.length ≤ n → Only G → SqL K G a (ns.map V.int) → sp K [.ref a] G (fun v _ => v = .bl true) E0)
    (F : ∀ (w : World) (mg : Str → Option Value) (fa : Addr) (h : Heap), (K w.params).In h → h.Ns mainGlobals mg → mg d.name = some (.ref fa) → ∀ base : Heap, (K w.params).In base → base.Ns mainGlobals mg → FnG l.prog w (K w.params) mg base k fa 1 (sp (K w.params))) :
    PySem.W.WalkO q loose XP YP l.row.toRowW d [] (fun f vs => PySem.call f vs) :=
  walk_g hn hn2 hdf hr fun w mg fa h Y G hmg => ⟨K w.params, sp (K w.params), hY w h Y, hsp _, F w mg fa h (hY w h Y) G hmg⟩
end PF

open PySem PySem.W PyProof.Rows in
set_option maxRecDepth 100000 in
set_option maxHeartbeats 0 in
theorem PySem.Challenge.cw_pieceround_k48_moves_of_places_beside_ro_holds : PySem.Challenge.rw_pieceround_k48_moves_of_places_beside_ro.Holds := by
  w_on; o_law; k_head; (case hw => w_witness2)
  k_fill
  refine PF.walk_k (l := PySem.Challenge.rw_pieceround_k48_moves_of_places_beside_ro) (n := 63) (k := 13) (sp := PF2.spLaw) rfl (by decide) rfl ⟨rfl, by decide, by decide⟩ (fun w h Y => PySem.W.kIn_of Y) (fun K G a ns hl _ hS => ⟨a, ns, rfl, hS, Nat.le_trans hl (by decide), fun H' => rfl⟩) ?F
  case F =>
    intro w mg fa h KX G hmg
    refine' PF2.all_mk KX G hmg ?z_abs ?z_all ?z_bool ?z_dict ?z_enumerate ?z_int ?z_isinstance ?z_len ?z_list ?z_max ?z_min ?z_range ?z_set ?z_sorted ?z_str ?z_tuple ?z_zip ?cn ?ct ?aCO ?pgCO ?icCO ?poCO ?saCO ?caCO ?cmCO ?mkCO ?kcCO ?saCOown_is_whole ?sgCOown_is_whole ?stCOown_is_whole ?syCOown_is_whole ?sxCOown_is_whole ?saCOown_lower ?sgCOown_lower ?stCOown_lower ?syCOown_lower ?sxCOown_lower ?saCOown_lower_at ?sgCOown_lower_at ?stCOown_lower_at ?syCOown_lower_at ?sxCOown_lower_at ?saCOown_names ?sgCOown_names ?stCOown_names ?syCOown_names ?sxCOown_names ?saCOown_needless ?sgCOown_needless ?stCOown_needless ?syCOown_needless ?sxCOown_needless ?saCOown_places ?sgCOown_places ?stCOown_places ?syCOown_places ?sxCOown_places ?saCOown_text ?sgCOown_text ?stCOown_text ?syCOown_text ?sxCOown_text ?saCOown_upper ?sgCOown_upper ?stCOown_upper ?syCOown_upper ?sxCOown_upper ?saCOown_upper_at ?sgCOown_upper_at ?stCOown_upper_at ?syCOown_upper_at ?sxCOown_upper_at ?tyCO ?suCO_int ?suCO_bool ?suCO_str ?suCO_NoneType ?suCO_list ?suCO_tuple ?suCO_dict ?at0 ?lt0 ?ct0 ?kt0 ?at1 ?lt1 ?ct1 ?kt1 ?at2 ?lt2 ?ct2 ?kt2 ?at3 ?lt3 ?ct3 ?kt3 ?at4 ?lt4 ?ct4 ?kt4 ?at5 ?lt5 ?ct5 ?kt5 ?at6 ?lt6 ?ct6 ?kt6 ?at7 ?lt7 ?ct7 ?kt7 ?ainiCO ?liniCO ?ciniCO ?kiniCO ?iiniCO ?apCO_above ?spCO_above ?tpCO_above ?rpCO_above ?lpCO_above ?cpCO_above ?kpCO_above ?apCO_below ?spCO_below ?tpCO_below ?rpCO_below ?lpCO_below ?cpCO_below ?kpCO_below ?apCO_names ?spCO_names ?tpCO_names ?rpCO_names ?lpCO_names ?cpCO_names ?kpCO_names ?apCO_many ?spCO_many ?tpCO_many ?rpCO_many ?lpCO_many ?cpCO_many ?kpCO_many ?apCO_places ?spCO_places ?tpCO_places ?rpCO_places ?lpCO_places ?cpCO_places ?kpCO_places ?apCO_is_whole ?spCO_is_whole ?tpCO_is_whole ?rpCO_is_whole ?lpCO_is_whole ?cpCO_is_whole ?kpCO_is_whole ?aqCO_len ?lqCO_len ?cqCO_len ?kqCO_len ?iqCO_len ?aqCO_contains ?lqCO_contains ?cqCO_contains ?kqCO_contains ?iqCO_contains ?aeqCO ?leqCO ?ceqCO ?keqCO ?ieqCO ?neCO ?astrCO ?lstrCO ?cstrCO ?kstrCO ?istrCO ?rdCO ?gaCO ?acCO_read ?rcCO_read ?lcCO_read ?ccCO_read ?kcCO_read ?icCO_read ?amCO_blocks ?lmCO_blocks ?cmCO_blocks ?kmCO_blocks ?imCO_blocks ?at8 ?lt8 ?ct8 ?kt8 ?amCO_renamed ?lmCO_renamed ?cmCO_renamed ?kmCO_renamed ?imCO_renamed ?at9 ?lt9 ?ct9 ?kt9 ?at10 ?lt10 ?ct10 ?kt10 ?at11 ?lt11 ?ct11 ?kt11 ?at12 ?lt12 ?ct12 ?kt12 ?at13 ?lt13 ?ct13 ?kt13 ?at14 ?lt14 ?ct14 ?kt14 ?at15 ?lt15 ?ct15 ?kt15 ?at16 ?lt16 ?ct16 ?kt16 ?at17 ?lt17 ?ct17 ?kt17 ?at18 ?lt18 ?ct18 ?kt18 ?at19 ?lt19 ?ct19 ?kt19 ?at20 ?lt20 ?ct20 ?kt20 ?at21 ?lt21 ?ct21 ?kt21 ?at22 ?lt22 ?ct22 ?kt22 ?at23 ?lt23 ?ct23 ?kt23 ?at24 ?lt24 ?ct24 ?kt24 ?at25 ?lt25 ?ct25 ?kt25 ?at26 ?lt26 ?ct26 ?kt26 ?at27 ?lt27 ?ct27 ?kt27 ?at28 ?lt28 ?ct28 ?kt28 ?at29 ?lt29 ?ct29 ?kt29 ?at30 ?lt30 ?ct30 ?kt30 ?at31 ?lt31 ?ct31 ?kt31 ?at32 ?lt32 ?ct32 ?kt32 ?at33 ?lt33 ?ct33 ?kt33 ?gEVEN ?gKINDS ?lKINDS ?gLETTERS ?gLOWER ?gMAX_COURSE ?gMAX_LETTERS ?gMAX_NAMES ?gMAX_PLACES ?gUPPER ?gWALKED ?lWALKED
    (case z_abs => k_is)
    (case z_all => k_is)
    (case z_bool => k_is)
    (case z_dict => k_is)
    (case z_enumerate => k_is)
    (case z_int => k_is)
    (case z_isinstance => k_is)
    (case z_len => k_is)
    (case z_list => k_is)
    (case z_max => k_is)
    (case z_min => k_is)
    (case z_range => k_is)
    (case z_set => k_is)
    (case z_sorted => k_is)
    (case z_str => k_is)
    (case z_tuple => k_is)
    (case z_zip => k_is)
    (case cn => k_is)
    (case ct => k_is)
    (case aCO => k_is)
    (case pgCO => k_is)
    (case icCO => k_is)
    (case poCO => k_is)
    (case saCO => k_is)
    (case caCO => k_is)
    (case cmCO => k_is)
    (case mkCO => k_is)
    (case kcCO => k_is)
    (case saCOown_is_whole => k_is)
    (case sgCOown_is_whole => k_is)
    (case stCOown_is_whole => k_is)
    (case syCOown_is_whole => k_is)
    (case sxCOown_is_whole => k_is)
    (case saCOown_lower => k_is)
    (case sgCOown_lower => k_is)
    (case stCOown_lower => k_is)
    (case syCOown_lower => k_is)
    (case sxCOown_lower => k_is)
    (case saCOown_lower_at => k_is)
    (case sgCOown_lower_at => k_is)
    (case stCOown_lower_at => k_is)
    (case syCOown_lower_at => k_is)
    (case sxCOown_lower_at => k_is)
    (case saCOown_names => k_is)
    (case sgCOown_names => k_is)
    (case stCOown_names => k_is)
    (case syCOown_names => k_is)
    (case sxCOown_names => k_is)
    (case saCOown_needless => k_is)
    (case sgCOown_needless => k_is)
    (case stCOown_needless => k_is)
    (case syCOown_needless => k_is)
    (case sxCOown_needless => k_is)
    (case saCOown_places => k_is)
    (case sgCOown_places => k_is)
    (case stCOown_places => k_is)
    (case syCOown_places => k_is)
    (case sxCOown_places => k_is)
    (case saCOown_text => k_is)
    (case sgCOown_text => k_is)
    (case stCOown_text => k_is)
    (case syCOown_text => k_is)
    (case sxCOown_text => k_is)
    (case saCOown_upper => k_is)
    (case sgCOown_upper => k_is)
    (case stCOown_upper => k_is)
    (case syCOown_upper => k_is)
    (case sxCOown_upper => k_is)
    (case saCOown_upper_at => k_is)
    (case sgCOown_upper_at => k_is)
    (case stCOown_upper_at => k_is)
    (case syCOown_upper_at => k_is)
    (case sxCOown_upper_at => k_is)
    (case tyCO => k_is)
    (case suCO_int => k_is)
    (case suCO_bool => k_is)
    (case suCO_str => k_is)
    (case suCO_NoneType => k_is)
    (case suCO_list => k_is)
    (case suCO_tuple => k_is)
    (case suCO_dict => k_is)
    (case at0 => k_is)
    (case lt0 => k_is)
    (case ct0 => k_is)
    (case kt0 => k_is)
    (case at1 => k_is)
    (case lt1 => k_is)
    (case ct1 => k_is)
    (case kt1 => k_is)
    (case at2 => k_is)
    (case lt2 => k_is)
    (case ct2 => k_is)
    (case kt2 => k_is)
    (case at3 => k_is)
    (case lt3 => k_is)
    (case ct3 => k_is)
    (case kt3 => k_is)
    (case at4 => k_is)
    (case lt4 => k_is)
    (case ct4 => k_is)
    (case kt4 => k_is)
    (case at5 => k_is)
    (case lt5 => k_is)
    (case ct5 => k_is)
    (case kt5 => k_is)
    (case at6 => k_is)
    (case lt6 => k_is)
    (case ct6 => k_is)
    (case kt6 => k_is)
    (case at7 => k_is)
    (case lt7 => k_is)
    (case ct7 => k_is)
    (case kt7 => k_is)
    (case ainiCO => k_is)
    (case liniCO => k_is)
    (case ciniCO => k_is)
    (case kiniCO => k_is)
    (case iiniCO => k_is)
    (case apCO_above => k_is)
    (case spCO_above => k_is)
    (case tpCO_above => k_is)
    (case rpCO_above => k_is)
    (case lpCO_above => k_is)
    (case cpCO_above => k_is)
    (case kpCO_above => k_is)
    (case apCO_below => k_is)
    (case spCO_below => k_is)
    (case tpCO_below => k_is)
    (case rpCO_below => k_is)
    (case lpCO_below => k_is)
    (case cpCO_below => k_is)
    (case kpCO_below => k_is)
    (case apCO_names => k_is)
    (case spCO_names => k_is)
    (case tpCO_names => k_is)
    (case rpCO_names => k_is)
    (case lpCO_names => k_is)
    (case cpCO_names => k_is)
    (case kpCO_names => k_is)
    (case apCO_many => k_is)
    (case spCO_many => k_is)
    (case tpCO_many => k_is)
    (case rpCO_many => k_is)
    (case lpCO_many => k_is)
    (case cpCO_many => k_is)
    (case kpCO_many => k_is)
    (case apCO_places => k_is)
    (case spCO_places => k_is)
    (case tpCO_places => k_is)
    (case rpCO_places => k_is)
    (case lpCO_places => k_is)
    (case cpCO_places => k_is)
    (case kpCO_places => k_is)
    (case apCO_is_whole => k_is)
    (case spCO_is_whole => k_is)
    (case tpCO_is_whole => k_is)
    (case rpCO_is_whole => k_is)
    (case lpCO_is_whole => k_is)
    (case cpCO_is_whole => k_is)
    (case kpCO_is_whole => k_is)
    (case aqCO_len => k_is)
    (case lqCO_len => k_is)
    (case cqCO_len => k_is)
    (case kqCO_len => k_is)
    (case iqCO_len => k_is)
    (case aqCO_contains => k_is)
    (case lqCO_contains => k_is)
    (case cqCO_contains => k_is)
    (case kqCO_contains => k_is)
    (case iqCO_contains => k_is)
    (case aeqCO => k_is)
    (case leqCO => k_is)
    (case ceqCO => k_is)
    (case keqCO => k_is)
    (case ieqCO => k_is)
    (case neCO => k_is)
    (case astrCO => k_is)
    (case lstrCO => k_is)
    (case cstrCO => k_is)
    (case kstrCO => k_is)
    (case istrCO => k_is)
    (case rdCO => k_is)
    (case gaCO => k_is)
    (case acCO_read => k_is)
    (case rcCO_read => k_is)
    (case lcCO_read => k_is)
    (case ccCO_read => k_is)
    (case kcCO_read => k_is)
    (case icCO_read => k_is)
    (case amCO_blocks => k_is)
    (case lmCO_blocks => k_is)
    (case cmCO_blocks => k_is)
    (case kmCO_blocks => k_is)
    (case imCO_blocks => k_is)
    (case at8 => k_is)
    (case lt8 => k_is)
    (case ct8 => k_is)
    (case kt8 => k_is)
    (case amCO_renamed => k_is)
    (case lmCO_renamed => k_is)
    (case cmCO_renamed => k_is)
    (case kmCO_renamed => k_is)
    (case imCO_renamed => k_is)
    (case at9 => k_is)
    (case lt9 => k_is)
    (case ct9 => k_is)
    (case kt9 => k_is)
    (case at10 => k_is)
    (case lt10 => k_is)
    (case ct10 => k_is)
    (case kt10 => k_is)
    (case at11 => k_is)
    (case lt11 => k_is)
    (case ct11 => k_is)
    (case kt11 => k_is)
    (case at12 => k_is)
    (case lt12 => k_is)
    (case ct12 => k_is)
    (case kt12 => k_is)
    (case at13 => k_is)
    (case lt13 => k_is)
    (case ct13 => k_is)
    (case kt13 => k_is)
    (case at14 => k_is)
    (case lt14 => k_is)
    (case ct14 => k_is)
    (case kt14 => k_is)
    (case at15 => k_is)
    (case lt15 => k_is)
    (case ct15 => k_is)
    (case kt15 => k_is)
    (case at16 => k_is)
    (case lt16 => k_is)
    (case ct16 => k_is)
    (case kt16 => k_is)
    (case at17 => k_is)
    (case lt17 => k_is)
    (case ct17 => k_is)
    (case kt17 => k_is)
    (case at18 => k_is)
    (case lt18 => k_is)
    (case ct18 => k_is)
    (case kt18 => k_is)
    (case at19 => k_is)
    (case lt19 => k_is)
    (case ct19 => k_is)
    (case kt19 => k_is)
    (case at20 => k_is)
    (case lt20 => k_is)
    (case ct20 => k_is)
    (case kt20 => k_is)
    (case at21 => k_is)
    (case lt21 => k_is)
    (case ct21 => k_is)
    (case kt21 => k_is)
    (case at22 => k_is)
    (case lt22 => k_is)
    (case ct22 => k_is)
    (case kt22 => k_is)
    (case at23 => k_is)
    (case lt23 => k_is)
    (case ct23 => k_is)
    (case kt23 => k_is)
    (case at24 => k_is)
    (case lt24 => k_is)
    (case ct24 => k_is)
    (case kt24 => k_is)
    (case at25 => k_is)
    (case lt25 => k_is)
    (case ct25 => k_is)
    (case kt25 => k_is)
    (case at26 => k_is)
    (case lt26 => k_is)
    (case ct26 => k_is)
    (case kt26 => k_is)
    (case at27 => k_is)
    (case lt27 => k_is)
    (case ct27 => k_is)
    (case kt27 => k_is)
    (case at28 => k_is)
    (case lt28 => k_is)
    (case ct28 => k_is)
    (case kt28 => k_is)
    (case at29 => k_is)
    (case lt29 => k_is)
    (case ct29 => k_is)
    (case kt29 => k_is)
    (case at30 => k_is)
    (case lt30 => k_is)
    (case ct30 => k_is)
    (case kt30 => k_is)
    (case at31 => k_is)
    (case lt31 => k_is)
    (case ct31 => k_is)
    (case kt31 => k_is)
    (case at32 => k_is)
    (case lt32 => k_is)
    (case ct32 => k_is)
    (case kt32 => k_is)
    (case at33 => k_is)
    (case lt33 => k_is)
    (case ct33 => k_is)
    (case kt33 => k_is)
    (case gEVEN => k_is)
    (case gKINDS => k_is)
    (case lKINDS => k_is)
    (case gLETTERS => k_is)
    (case gLOWER => k_is)
    (case gMAX_COURSE => k_is)
    (case gMAX_LETTERS => k_is)
    (case gMAX_NAMES => k_is)
    (case gMAX_PLACES => k_is)
    (case gUPPER => k_is)
    (case gWALKED => k_is)
    (case lWALKED => k_is)
