import PyProof.Rows.All
import Wide.All
import OpenK.AllK
import Wide.FinOn
import PyProof.InstSpecial
import KE.KOpsOwn
import KE.KExcInit
import HandS.ForExc
import HandS.Comp
import HandS.Wide
import HandS.WideBits
import HandS.Slots
import HandS.SlotsOwn
import HandS.MakeKwOnly
import HandS.MakeKw
import HandS.Defaults
import HandS.More
import HandS.IsInst
import HandS.Flow
import HandS.Conv
import HandS.Codes
import PyProof.ReprRoads
import HandS.Zip
import HandS.NoneIn
import HandS.TupAny
import HandS.TupMul
import HandS.FStr
import HandS.RaiseMore
import PySem.Challenge.RW_pieceround_k03_numbers_compared
set_option Elab.async false
set_option linter.all false
set_option maxRecDepth 100000
set_option maxHeartbeats 4000000
namespace PF
open PySem PySem.Spec PyProof.Rows L2 SlX

/-! ### own operators of slotted instances -/
section
variable {X : Cx} {CX : CXT} {C g : Addr} {n : Nat} {sp : Sp} {E : XK}
/-- // by any divisor other than 0 of fewer than 9000 bits -/
def CDvz (_ j : Int) : Prop := j ≠ 0 ∧ j.natAbs.log2 < 9000
theorem op_fdivZ : OpR X (binaryOp .FloorDiv) (rI CDvz fun i j => .int (i.fdiv j)) :=
  opI fun _ _ _ _ _ _ _ c k => floordiv_int c.1 k (.inl (PyProof.noPylong_of_log2 c.2))

/-- x op y, both instances of the class at C -/
def rBinS (C : Addr) (sp : Sp) (E : XK) : R2 := fun x y H Q => ∃ a dx vs b dy ws, x = .ref a ∧ y = .ref b ∧ Slt H a C dx vs ∧ Slt H b C dy ws ∧ sp [x, y] H Q E
/-- x op i, x an instance, i an integer -/
def rBinI (C : Addr) (sp : Sp) (E : XK) : R2 := fun x y H Q => ∃ a dx vs i, x = .ref a ∧ y = .int i ∧ Slt H a C dx vs ∧ sp [x, y] H Q E
theorem op_binS {op : Operator} (h1 : PySem.W.selfFirst X.K C = true) (h2 : PySem.W.findIn X.K (.ref C) (PySem.dunder op.info.2) = some (some (.ref g))) (h3 : PySem.W.isFn X.K (.ref g) = true)
    (F : FnR X.prog X.w X.K X.mg X.base CX n g sp) (hr : Room n X.A) (hx : Passes CX X E) : OpR X (binaryOp op) (rBinS C sp E) := by
  intro pins st sg HH x y v u Qk J rx ry k
  obtain ⟨a, dx, vs, b, dy, ws, rfl, rfl, sa, sb, k⟩ := k
  cases (show v = Value.ref a from rx)
  cases (show u = Value.ref b from ry)
  obtain ⟨_, _, _, ja, _⟩ := slt_inst J sa
  obtain ⟨_, _, _, jb, _⟩ := slt_inst J sb
  obtain ⟨_, fr⟩ := J.fr
  refine PySem.W.binop_K fr J.ok.mod.kin ja jb.type h1 h2 h3 ?_
  exact wpAny_mono (wpAny_call (run_fnR (us := [.ref a, .ref b]) (vs := [.ref a, .ref b]) F hr hx J (.cons rfl (.cons rfl .nil)) k))
    (fun _ _ ⟨z, H3, J3, rz, k3⟩ => cmpback rz ⟨z, H3, J3, rz, k3⟩) fun _ _ e => e
theorem op_binI {op : Operator} {fo ro rc : Option Value} (h1 : PySem.W.selfFirst X.K C = true) (h2 : PySem.W.findIn X.K (.ref C) (PySem.dunder op.info.2) = some (some (.ref g))) (h3 : PySem.W.isFn X.K (.ref g) = true)
    (h4 : PySem.W.findIn X.K (.ref C) (PySem.dunderR op.info.2) = some rc) (h5 : rc = none ∨ ∃ g : Addr, rc = some (.ref g)) (h6 : PySem.W.findIn X.K (.type "int") (PySem.dunder op.info.2) = some fo)
    (h7 : PySem.W.findIn X.K (.type "int") (PySem.dunderR op.info.2) = some ro) (h8 : PySem.W.subIn X.K (.type "int") (.ref C) = some false)
    (F : FnR X.prog X.w X.K X.mg X.base CX n g sp) (hr : Room n X.A) (hx : Passes CX X E) : OpR X (binaryOp op) (rBinI C sp E) := by
  intro pins st sg HH x y v u Qk J rx ry k
  obtain ⟨a, dx, vs, i, rfl, rfl, sa, k⟩ := k
  cases (show v = Value.ref a from rx)
  obtain ⟨t, et⟩ := (show ∃ t, u = Value.int i t from ry)
  subst et
  obtain ⟨_, _, _, ja, _⟩ := slt_inst J sa
  obtain ⟨_, fr⟩ := J.fr
  refine PySem.W.ksp_binT fr J.ok.mod.kin ja rfl h1 h2 h3 h4 h5 h6 h7 h8 ?_
  exact wpAny_mono (wpAny_call (run_fnR (us := [.ref a, .int i t]) (vs := [.ref a, .int i]) F hr hx J (.cons rfl (.cons ⟨t, rfl⟩ .nil)) k))
    (fun _ _ ⟨z, H3, J3, rz, k3⟩ => cmpback rz ⟨z, H3, J3, rz, k3⟩) fun _ _ e => e
/-- -x of an instance -/
def rNegS (C : Addr) (sp : Sp) (E : XK) : V → Hp → VK → Prop := fun x H Q => ∃ a dx vs, x = .ref a ∧ Slt H a C dx vs ∧ sp [x] H Q E
theorem un_negS (h2 : PySem.W.findIn X.K (.ref C) "__neg__" = some (some (.ref g))) (h3 : PySem.W.isFn X.K (.ref g) = true)
    (F : FnR X.prog X.w X.K X.mg X.base CX n g sp) (hr : Room n X.A) (hx : Passes CX X E) : UnR X (unaryOp .USub) (rNegS C sp E) := by
  intro pins st sg HH x v Qk J rx k
  obtain ⟨a, dx, vs, rfl, sa, k⟩ := k
  cases (show v = Value.ref a from rx)
  obtain ⟨_, _, _, ja, _⟩ := slt_inst J sa
  obtain ⟨_, fr⟩ := J.fr
  refine PySem.W.ksp_neg fr J.ok.mod.kin ja h2 h3 ?_
  exact wpAny_call (run_fnR (us := [.ref a]) (vs := [.ref a]) F hr hx J (.cons rfl .nil) k)
end

/-! ### x != y by an own == -/
section
variable {prog : Program} {w : World} {A : Around} {E : Value → Shared → Prop} {s : Shared} {K : PySem.W.Frag} {x C f : Addr} {ox : Obj} {od : Option Obj} {b tb : Value}
open PySem.W in
theorem bound_blt {M : Model} {name : Str} {T : String} {id : String} {args : List Value} {Q : Option Value → Shared → Prop} (X : K.In s.heap) (I : InstAt s.heap x ox C od) (h1 : findIn K (.ref C) name = some (some (.builtin id))) (S : Slot T name id)
    (h : wpAny M A (call (.builtin id) (.ref x :: args)) (fun v => Q (some v)) E s) : wpAny M A (callSpecialIfBound? (.ref x) name args) Q E s := by
  have one : wpAny M A (call (.builtin id) ([.ref x] ++ args) >>= fun v => pure (some v)) Q E s := wpAny_bind (wpAny_mono h (fun _ _ k => wpAny_pure k) fun _ _ k => k)
  simp only [callSpecialIfBound?, bindSpecialIfBound?]
  refine wpAny_holding (wpAny_bind (wpAny_bind (wpAny_bind (I.type.here ((looks_findIn X h1).here ?_)))))
  simp only [S.bind]
  refine wpAny_bind (wpAny_askSetting (wpAny_ite ?_))
  split
  · exact wpAny_bind (wpAny_pure (wpAny_pure one))
  · exact wpAny_tryCatch (wpAny_bind (wpAny_pure (wpAny_pure one)))
open PySem.W in
theorem ne_slot {Q : Value → Shared → Prop} (hu : A.units + 1 < cLine) (X : K.In s.heap) (I : InstAt s.heap x ox C od) (hb : Looks (model prog w) s.heap (typeOf b) tb) (hn : notFirst K C tb = true)
    (h1 : findIn K (.ref C) "__ne__" = some (some (.builtin "object.__ne__"))) (h2 : findIn K (.ref C) "__eq__" = some (some (.ref f))) (h3 : isFn K (.ref f) = true) (h4 : mroIn K C (.type "object") = some true)
    (h : wpAny (model prog w) A.in1 (call (.ref f) [.ref x, b]) (fun v s' => ∃ c, v = Value.bool c ∧ Q (.bool (!c)) s') E s) : wpAny (model prog w) A (compareOp .NotEq (.ref x) b) Q E s := by
  have sub : Looks (model prog w) s.heap (isInstance (.ref x) (.type "object")) true := I.type.andThen (looks_mroIn X h4)
  have S := PySem.F.slot_object_ne
  have two : wpAny (model prog w) A (tryCompare (.ref x) "__ne__" b) (fun r s' => ∃ v, r = some v ∧ Q v s') E s := by
    unfold tryCompare
    refine wpAny_bind (bound_blt X I h1 S ?_)
    refine wpAny_call (codeAny_call_builtin S.plain F.cmpEntry_ne (@check_slot (model prog w) _ _ s "object.__ne__" "object" "__ne__" (.ref x) [b] [] _ F.cmpKind_ne F.cmpSplit_ne sub (F.cmpArgs_ne _ _) ?_))
    unfold Builtin.«object.__ne__»
    have main : wpAny (model prog w) A.in1 (callSpecialIfBound? (.ref x) "__eq__" [b]) (fun r s' => ∃ c, r = some (Value.bool c) ∧ Q (.bool (!c)) s') E s :=
      ifBound_K X I h2 h3 (wpAny_mono h (fun v s' hv => by
        obtain ⟨c, rfl, hq⟩ := hv
        exact ⟨c, rfl, hq⟩) fun _ _ e => e)
    repeat (first
      | with_reducible refine wpAny_cRoomFor hu ?_
      | (refine wpAny_bind (m := callSpecialIfBound? (.ref x) (Str.ofString "__eq__") [b]) (wpAny_mono main (fun r s' hr => ?_) fun _ _ e => e)
         obtain ⟨c, rfl, hq⟩ := hr)
      | with_reducible refine wpAny_truthy_bool ?_
      | wp_step)
    all_goals exact ⟨_, rfl, hq⟩
  have fin : ∀ k : Option Value → Sem Value, (∀ v s', Q v s' → wpAny (model prog w) A (k (some v)) Q E s') → wpAny (model prog w) A (tryCompare (.ref x) "__ne__" b >>= k) Q E s := fun k hk =>
    wpAny_bind (wpAny_mono two (fun _ s' ⟨v, e, hq⟩ => e ▸ hk v s' hq) fun _ _ e => e)
  unfold compareOp richCompare; simp only [oneThing_ref]
  refine wpAny_holding (wpAny_bind (wpAny_cRoomFor (by omega) (wpAny_bind (I.type.here (wpAny_bind (hb.here ?_))))))
  split
  · next q =>
    have e : subIn K tb (.ref C) = some false := (Bool.or_eq_true_iff.mp hn).elim (fun z => absurd q (by rw [beq_iff_eq.mp z]; simp)) beq_iff_eq.mp
    refine wpAny_bind (looks_subIn X e |>.here ?_); simp only [Bool.false_eq_true, if_false]
    exact fin _ fun v s' hq => wpAny_pure hq
  · refine wpAny_bind (wpAny_pure ?_); simp only [Bool.false_eq_true, if_false]
    exact fin _ fun v s' hq => wpAny_pure hq
end
end PF

set_option Elab.async false
set_option linter.all false
set_option maxRecDepth 100000
set_option maxHeartbeats 4000000
namespace PF
open PySem PySem.Spec PyProof.Rows L2 SlX

/-! ### defs whose callers are known to stand outside of every repr: A.guards is some [] -/
/-- the def at f keeps its promise wherever no repr is running; it raises nothing -/
def FnG (P : Program) (w : World) (K : PySem.W.Frag) (mg : Str → Option Value) (base : Heap) (k : Nat) (f : Addr) (m : Nat) (sp : Sp) : Prop :=
  ∀ (Ar : Around) (out : List Env) (st : Shared) (G : Hp) (us : List Value) (vs : List V) (R : VK), Ar.guards = some [] → Room k Ar → Env0 P w K mg base Ar out st G → vs.length = m → Vals vs us → sp vs G R E0 →
    codeAny (model P w) Ar (.call (.ref f) ⟨us, []⟩) (CR CX0 out P w G st R E0) st
section
variable {P : Program} {w : World} {K : PySem.W.Frag} {mg : Str → Option Value} {base : Heap} {k : Nat} {f : Addr} {fd : FuncData} {N ps : List Str} {sp : Sp}
theorem FnG.mono {j : Nat} {m : Nat} (F : FnG P w K mg base j f m sp) (h : j ≤ k) : FnG P w K mg base k f m sp := fun Ar out st G us vs R a b => F Ar out st G us vs R a (b.mono h)
theorem FnG.of (F : FnOk P w K mg base CX0 k f fd ps sp) (b : Binds K fd ps []) : FnG P w K mg base k f ps.length sp := fun Ar out st G us vs R _ hr e0 hl r h => by
  have KX : K.In st.heap := e0.mod.kin.keeps fun b o e => (e0.bs b o e).1
  have l2 : us.length = ps.length := r.length.symm.trans hl
  have b2 := b st us KX (by simpa using l2)
  rw [List.append_nil] at b2
  exact F.run Ar out st G ⟨us, []⟩ us vs R E0 hr e0 b2 r h
/-- THE RULE: by the body -/
theorem Fun.okG {x qual : Str} {sm : Stmt} (F : Fun K x qual sm f fd) (S : FnScope N ps (defScope sm)) (b : Binds K fd ps [])
    (body : ∀ (cdv : Value) (Ar : Around) (out : List Env) (st : Shared) (G : Hp) (vs : List V) (R : VK), Ar.guards = some [] → Room k (Ar.deeper (envOfC qual (defScope sm) st.heap.objs.size f cdv)) → sp vs G R E0 →
      ∃ t, PSs (cxOf CX0 P w K mg base N qual (defScope sm) f cdv Ar out st G E0).nox (defBody sm) t ∧ t { nx := fun _ H' => R .non H', rt := R } (start N vs) G) : FnG P w K mg base (k + 1) f ps.length sp := by
  intro Ar out st G us vs R hg hr e0 hl r hsp
  obtain ⟨oc, od, kV, doc, pm, an, cdv, ct, osl, rfl, lk, hcd⟩ := F.ex
  have KX : K.In st.heap := e0.mod.kin.keeps fun b o e => (e0.bs b o e).1
  have l2 : us.length = ps.length := r.length.symm.trans hl
  have b2 := b st us KX (by simpa using l2)
  rw [List.append_nil] at b2
  have kinds : ∀ y ∈ ps.zip us, (defScope sm).names.lookup y.1 = some .local ∨ ((defScope sm).names.lookup y.1 = some .cell ∧ ((cellsFrom (st.heap.objs.size + 1) (defScope sm).names []).lookup y.1).isSome = true) := fun y hy =>
    (S.par y.1 (List.of_mem_zip (a := y.1) (b := y.2) hy).1).imp id fun q => ⟨q, PySem.W.cellsFrom_some _ _ _ (.inl q)⟩
  refine codeAny_call_function hr.depth (KX _ _ lk) rfl S.co S.gen rfl (PySem.W.codeRec_of KX hcd) (b2 _ _ _ _ (wpAny_newFunctionEnv_cells S.kind kinds fun ev hev s1 x => ?_))
  subst hev
  refine ⟨(e0.mod.nolimit.keeps fun b o e => (e0.bs b o e).1).keeps x.toInCall.keep, codeAny_func ?_⟩
  obtain ⟨t, ht, hq⟩ := body cdv Ar out st G vs R hg (hr.deeper _) hsp
  have J : Inv (cxOf CX0 P w K mg base N qual (defScope sm) f cdv Ar out st G E0) [] (start N vs) G s1 := inv_start S hr.hd e0 hl r x
  refine wpAny_mono (ht.nox.run [] s1 (start N vs) G _ J hq) (fun fl s' hs => ?_) fun _ _ z => z
  cases fl with
  | ret u => obtain ⟨v, _, G', J', rv, q⟩ := hs; exact ⟨v, G', J'.os, J'.bare, J'.base, J'.hok, rv, q⟩
  | next => obtain ⟨_, G', J', q⟩ := hs; exact ⟨V.non, G', J'.os, J'.bare, J'.base, J'.hok, rfl, q⟩
  | brk => obtain ⟨_, _, _, q⟩ := hs; exact q.elim
  | cont => obtain ⟨_, _, _, q⟩ := hs; exact q.elim
end
section
variable {X : Cx} {k m : Nat} {f : Addr} {sp : Sp} {x : Str} {p pos : Pos} {e : Expr} {es : List Expr} {t : TA}
theorem run_fnG {pins : List (Addr × Obj)} {st : Shared} {sg : L2.St} {G : Hp} {R : VK} {us : List Value} {vs : List V} (F : FnG X.prog X.w X.K X.mg X.base k f m sp) (hg : X.A.guards = some []) (hr : Room k X.A)
    (J : Inv X pins sg G st) (r : Vals vs us) (hl : vs.length = m) (h : sp vs G R E0) : wpAny (model X.prog X.w) X.A (call (.ref f) us) (EP X pins sg R) X.xe st := by
  refine wpAny_call (codeAny_mono (F X.A X.stack st G us vs R hg hr J.env0 hl r h) fun rr s' hq => ?_)
  cases rr with
  | error e => exact hq.elim
  | ok fl => cases fl with
    | ret u => exact J.after hq
    | next => exact hq.elim
    | brk => exact hq.elim
    | cont => exact hq.elim
/-- f(e, ..) -/
theorem pe_g (F : FnG X.prog X.w X.K X.mg X.base k f m sp) (hg : X.A.guards = some []) (hr : Room k X.A) (gm : X.mg x = some (.ref f)) (kp : PySem.W.keepIn X.K (.ref f) = true) (hm : (e :: es).length = m) (ha : PA X (e :: es) t)
    (ht : ∀ σ H (Q : List V → Hp → Prop), t σ H Q → t σ H fun vs H1 => vs.length = m ∧ Q vs H1) (gl : Gl X x := by rfl) (hdb : (x == ("__debug__" : Str)) = false := by decide)
    (he : starEach (e :: es) X.env = (false, eval e X.env) :: starEach es X.env := by rfl) (hpl : (backTo pos (starEach es X.env)).any (·.1) = false := by rfl) : PE X (.Call (.Name x p) (e :: es) [] pos) (tCall sp [] E0 t) := by
  refine ⟨fun pins st sg G R J h => wpAny_Call_Name_kw (ld_glob J gl gm ?_ hdb)⟩
  refine PySem.W.callWith_K (h₀ := X.base) J.ok.mod.kin kp (thn (ha.run pos pins st sg G _ J (ht _ _ _ h)) fun us s1 ⟨vs, G1, J1, r, hl, q⟩ => ⟨J1.kIn, ?_⟩) he hpl
  rw [List.append_nil] at q
  exact run_fnG F hg hr J1 r hl q
/-! ### repr of data -/
/-- repr(x), x some data -/
def rRepr (K : PySem.W.Frag) : List V → Hp → VK → Prop := fun xs H Q => ∃ v d, xs = [v] ∧ Dp K H v d ∧ d.showable = true ∧ d.hasDict = false ∧ d.shown.length ≤ sizeLine ∧ d.depth ≤ 64 ∧ Q (.str d.shown) H
theorem call_repr (hg : X.A.guards = some []) (hu : X.A.units + 100 < cLine) : CallR X (.builtin "repr") (rRepr X.K) := by
  intro pins st sg G xs us R J r h
  obtain ⟨v, d, rfl, hd, h1, h2, h3, h4, q⟩ := h
  obtain ⟨u, rfl, ru⟩ := r.one
  obtain ⟨as, rd⟩ := Dp.reads J d v u hd ru
  cases rd with
  | none => exact PySem.P.repr_of_none ⟨V.str (PyData.shown .none), G, J.tok _, ⟨_, rfl⟩, q⟩
  | bool b => exact PySem.P.repr_of_bool ⟨V.str (PyData.shown (.bool b)), G, J.tok _, ⟨_, rfl⟩, q⟩
  | int i t => exact PySem.P.repr_of_int (by simpa [PyData.showable] using h1) ⟨V.str (PyData.shown (.int i)), G, J.tok _, ⟨_, rfl⟩, q⟩
  | str x t => exact PySem.P.repr_of_str ⟨V.str (PyData.shown (.str x)), G, J.tok _, ⟨_, rfl⟩, q⟩ (by simpa only [PyData.shown] using h3)
  | list a1 a2 a3 a4 =>
    exact repr_of_reads' (.list a1 a2 a3 a4) h1 (fun z => by rw [h2] at z; cases z) hg (by omega) (fun _ _ e => e) (fun h' u tk hk => ⟨V.str (PyData.shown _), G, J.kept hk, ⟨_, rfl⟩, q⟩) h3
  | tuple a1 a2 a3 a4 =>
    exact repr_of_reads' (.tuple a1 a2 a3 a4) h1 (fun z => by rw [h2] at z; cases z) hg (by omega) (fun _ _ e => e) (fun h' u tk hk => ⟨V.str (PyData.shown _), G, J.kept hk, ⟨_, rfl⟩, q⟩) h3
  | dict _ _ _ _ _ => cases h2
end
/-! ### the law's end, where the law's own def wants to know that no repr is running -/
theorem law_end {P : Program} {w : World} {K : PySem.W.Frag} {mg mb : Str → Option Value} {k : Nat} {fa a : Addr} {sp : Sp} {st : Shared} {vs : List Value} {ns : List Int}
    (KX : K.In st.heap) (g1 : st.heap.Ns mainGlobals mg) (g2 : st.heap.Ns builtinsNs mb) (g3 : ∀ x : Str, x ≠ "__name__" → mb x = bootBuiltins x) (lim : st.heap.NoLimit) (gn : st.gens = #[])
    (ha : st.heap.get? a = some { cls := .type "list", data := .seq vs.toArray }) (hi : IntsAre vs ns) (hl : ns.length ≤ sizeLine) (hr : Room k callerA)
    (F : ∀ base : Heap, K.In base → base.Ns mainGlobals mg → FnG P w K mg base k fa 1 sp)
    (hsp : ∀ G : Hp, Only G → SqL K G a (ns.map V.int) → sp [.ref a] G (fun v _ => v = .bl true) E0) :
    codeAny (model P w) callerA (.call (.ref fa) ⟨[.ref a], []⟩) (fun r s' => r = .ok (.ret (.bool true)) ∧ OldK st.heap s'.heap ∧ s'.os = st.os ∧ AllBare s'.gens) st := by
  have rv := vals_ints hi
  have lv := hi.length
  have core : ∀ G : Hp, Only G → SqL K G a (ns.map V.int) → HOk P w G st.heap → (∀ b u, G b = some u → b = a ∧ K.lookup a = none) →
      codeAny (model P w) callerA (.call (.ref fa) ⟨[.ref a], []⟩) (fun r s' => r = .ok (.ret (.bool true)) ∧ OldK st.heap s'.heap ∧ s'.os = st.os ∧ AllBare s'.gens) st := by
    intro G hO hS ok hA
    have free : ∀ b o, st.heap.get? b = some o → (∀ n, o.data ≠ .seq vs.toArray n) ∨ K.lookup b = some o → G b = none := fun b o e z => by
      cases q : G b with
      | none => rfl
      | some u =>
        obtain ⟨rfl, hk⟩ := hA b u q
        rcases z with z | z
        · rw [ha] at e; cases e; exact absurd rfl (z _)
        · rw [hk] at z; cases z
    have nsK : ∀ {b : Addr} {m : Str → Option Value}, st.heap.Ns b m → (hidT st.heap G).Ns b m := fun ⟨o, es, ep, e, d, r⟩ =>
      ⟨o, es, ep, hidT_get e (free _ o e (.inl fun n z => by rw [d] at z; cases z)), d, r⟩
    have kb : K.In (hidT st.heap G) := fun b o e => hidT_get (KX b o e) (free b o (KX b o e) (.inr e))
    have M : Mod K mg (hidT st.heap G) := ⟨kb, nsK g1, ⟨mb, nsK g2, g3⟩, let ⟨mc, h1, h2⟩ := lim; ⟨mc, nsK h1, h2⟩⟩
    have e0 : Env0 P w K mg (hidT st.heap G) callerA [] st G := ⟨rfl, M, fun b o e => of_hidT e, Nat.le_of_eq (hidT_size _ _), trivial, fun b hb => (nomatch (show b ∈ ([] : List Addr) from hb)), ok, .of_eq gn⟩
    refine codeAny_mono (F _ kb (nsK g1) callerA [] st G [.ref a] [.ref a] _ rfl hr e0 rfl (.cons rfl .nil) (hsp G hO hS)) fun rr s' h => ?_
    cases rr with
    | error e => exact h.elim
    | ok fl => cases fl with
      | next => exact h.elim
      | brk => exact h.elim
      | cont => exact h.elim
      | ret u =>
        obtain ⟨v, G', os, bare, un, ok', r', q⟩ := h
        subst q
        obtain rfl : u = Value.bool true := r'
        refine ⟨rfl, OldK.of_keep fun b o e => ?_, os, bare⟩
        rcases hO b with z | ⟨ob, xs, z⟩
        · exact un.keep b o e z (fun y => (nomatch (show b ∈ ([] : List Addr) from y))) (by simp)
        · obtain ⟨e1, _⟩ := ok b _ z
          obtain ⟨e2, _⟩ := ok' b _ (un.frzs b ob _ z)
          rw [e] at e1; cases e1; exact e2
  cases hk : K.lookup a with
  | some o =>
    have e := KX a o hk
    rw [ha] at e; cases e
    exact core (fun _ => none) (fun _ => .inl rfl) (.inr ⟨_, vs.toArray, _, hk, rfl, rfl, rfl, by rw [List.size_toArray, lv]; exact hl, by simpa using rv⟩) (fun b u z => by have y : (none : Option HO) = some u := z; cases y) fun b u z => by have y : (none : Option HO) = some u := z; cases y
  | none =>
    refine core (fun b => if b = a then some (.frz { cls := .type "list", data := .seq vs.toArray } (.lst (ns.map V.int))) else none) (fun b => ?_) (.inl (.inr ⟨{ cls := .type "list", data := .seq vs.toArray }, if_pos rfl⟩)) (fun b u z => ?_) fun b u z => ?_
    · by_cases y : b = a
      · exact .inr ⟨_, _, if_pos y⟩
      · exact .inl (if_neg y)
    · by_cases y : b = a
      · have z' := (if_pos y).symm.trans z
        cases z'; subst y
        exact ⟨ha, by rw [List.length_map]; exact hl, vs, _, rv, ha⟩
      · have z' := (if_neg y).symm.trans z
        cases z'
    · by_cases y : b = a
      · exact ⟨y, hk⟩
      · have z' := (if_neg y).symm.trans z
        cases z'
theorem walk_g {l : PySem.W.OpenLaw} {n k : Nat} {q : Program} {loose : List Str} {XP : (Str → Option Value) → Heap → Prop} {YP : World → Heap → Prop} {d : DefRec}
    (hn : l.most = some n) (hn2 : n ≤ sizeLine) (hdf : d.params.defaults = []) (hr : Room k callerA)
    (F : ∀ (w : World) (mg : Str → Option Value) (fa : Addr) (h : Heap), YP w h → h.Ns mainGlobals mg → mg d.name = some (.ref fa) →
      ∃ (K : PySem.W.Frag) (sp : Sp), K.In h ∧ (∀ (G : Hp) (a : Addr) (ns : List Int), ns.length ≤ n → Only G → SqL K G a (ns.map V.int) → sp [.ref a] G (fun v _ => v = .bl true) E0) ∧
        ∀ base : Heap, K.In base → base.Ns mainGlobals mg → FnG l.prog w K mg base k fa 1 sp) :
    PySem.W.WalkO q loose XP YP l.row.toRowW d [] (fun f vs => PySem.call f vs) := by
  refine Att.attach_call hn hdf fun w _ s1 mg mb fa _ _ _ _ a vs ns Gr Y _ _ _ hmg hobj hints hlen hg => ?_
  obtain ⟨K, sp, KX, hsp, hF⟩ := F w mg fa _ Y Gr.T.g hmg
  exact law_end KX Gr.T.g Gr.T.b Gr.T.builtins Gr.T.nolimit hg hobj hints (Nat.le_trans hlen hn2) hr hF fun G hO hS => hsp G a ns hlen hO hS
end PF

set_option Elab.async false
set_option linter.all false
set_option maxRecDepth 100000
set_option maxHeartbeats 4000000
namespace PF
open PySem PySem.Spec PyProof.Rows L2 SlX

/-! ### what stands at a global name -/
/-- the module's def x: it keeps sp -/
structure GD (P : Program) (w : World) (K : PySem.W.Frag) (mg : Str → Option Value) (base : Heap) (x : Str) (k : Nat) (sp : Sp) : Prop where
  ex : ∃ f fd ps, mg x = some (.ref f) ∧ PySem.W.keepIn K (.ref f) = true ∧ Binds K fd ps [] ∧ FnOk P w K mg base CX0 k f fd ps sp
structure GG (P : Program) (w : World) (K : PySem.W.Frag) (mg : Str → Option Value) (base : Heap) (x : Str) (k m : Nat) (sp : Sp) : Prop where
  ex : ∃ f, mg x = some (.ref f) ∧ PySem.W.keepIn K (.ref f) = true ∧ FnG P w K mg base k f m sp
theorem GD.gg {P : Program} {w : World} {K : PySem.W.Frag} {mg : Str → Option Value} {base : Heap} {x : Str} {k m : Nat} {sp : Sp} (G : GD P w K mg base x k sp) (h : ∀ vs H Q E, sp vs H Q E → vs.length = m) : GG P w K mg base x k m sp := by
  obtain ⟨f, fd, ps, h1, h2, h3, h4⟩ := G.ex
  refine ⟨f, h1, h2, fun Ar out st G2 us vs R hg hr e0 hl r hs => ?_⟩
  have e : ps.length = m := (h4.len _ _ _ _ hs).symm.trans (h _ _ _ _ hs)
  exact FnG.of h4 h3 Ar out st G2 us vs R hg hr e0 (hl.trans e.symm) r hs
section
variable {X : Cx} {k m : Nat} {sp : Sp} {x : Str} {p pos : Pos} {e : Expr} {es : List Expr} {t : TA}
theorem pe_c1 (G : GD X.prog X.w X.K X.mg X.base x k sp) (hr : Room k X.A) (ha : PA X (e :: es) t) (gl : Gl X x := by rfl) (hdb : (x == ("__debug__" : Str)) = false := by decide)
    (he : starEach (e :: es) X.env = (false, eval e X.env) :: starEach es X.env := by rfl) (hpl : (backTo pos (starEach es X.env)).any (·.1) = false := by rfl) : PE X (.Call (.Name x p) (e :: es) [] pos) (tCall sp [] E0 t) := by
  obtain ⟨f, fd, ps, h1, h2, h3, h4⟩ := G.ex
  exact pe_call h4 hr gl h1 h2 h3 .nil pass0 ha hdb he hpl
theorem pe_c0 (G : GD X.prog X.w X.K X.mg X.base x k sp) (hr : Room k X.A) (gl : Gl X x := by rfl) (hdb : (x == ("__debug__" : Str)) = false := by decide) : PE X (.Call (.Name x p) [] [] pos) (tCall sp [] E0 tNil) := by
  obtain ⟨f, fd, ps, h1, h2, h3, h4⟩ := G.ex
  exact pe_call0 h4 hr gl h1 h2 h3 .nil pass0 hdb
/-- the reading of a call of a def of the kind GG: its number of arguments is told once more -/
def tCallG (sp : Sp) (m : Nat) (t : TA) : TE := fun σ H Q => t σ H fun vs H1 => vs.length = m ∧ sp vs H1 Q E0
theorem pe_gd (G : GG X.prog X.w X.K X.mg X.base x k m sp) (hg : X.A.guards = some []) (hr : Room k X.A) (ha : PA X (e :: es) t) (gl : Gl X x := by rfl) (hdb : (x == ("__debug__" : Str)) = false := by decide)
    (he : starEach (e :: es) X.env = (false, eval e X.env) :: starEach es X.env := by rfl) (hpl : (backTo pos (starEach es X.env)).any (·.1) = false := by rfl) : PE X (.Call (.Name x p) (e :: es) [] pos) (tCallG sp m t) := by
  obtain ⟨f, h1, h2, h4⟩ := G.ex
  refine ⟨fun pins st sg G R J h => wpAny_Call_Name_kw (ld_glob J gl h1 ?_ hdb)⟩
  refine PySem.W.callWith_K (h₀ := X.base) J.ok.mod.kin h2 (thn (ha.run pos pins st sg G _ J h) fun us s1 ⟨vs, G1, J1, r, hl, q⟩ => ⟨J1.kIn, ?_⟩) he hpl
  exact run_fnG h4 hg hr J1 r hl q
end
/-- the class x at C: its __init__ keeps sp; dvs: its defaults -/
structure GM (P : Program) (w : World) (K : PySem.W.Frag) (mg : Str → Option Value) (base : Heap) (x : Str) (C : Addr) (k : Nat) (dvs : List V) (sp : Sp) : Prop where
  ex : ∃ f fd ps ds, mg x = some (.ref C) ∧ Mk K C f ∧ Binds K fd ps ds ∧ Vals dvs ds ∧ FnOk P w K mg base CX0 k f fd ps sp
theorem pe_m1 {X : Cx} {k : Nat} {sp : Sp} {x : Str} {C : Addr} {dvs : List V} {p pos : Pos} {e : Expr} {es : List Expr} {t : TA} (G : GM X.prog X.w X.K X.mg X.base x C k dvs sp) (hr : Room (k + 1) X.A) (ha : PA X (e :: es) t) (gl : Gl X x := by rfl) (hdb : (x == ("__debug__" : Str)) = false := by decide)
    (he : starEach (e :: es) X.env = (false, eval e X.env) :: starEach es X.env := by rfl) (hpl : (backTo pos (starEach es X.env)).any (·.1) = false := by rfl) : PE X (.Call (.Name x p) (e :: es) [] pos) (tMake C sp dvs E0 t) := by
  obtain ⟨f, fd, ps, ds, h1, h2, h3, h4, h5⟩ := G.ex
  exact pe_make h2 h5 hr gl h1 h3 h4 pass0 ha hdb he hpl
theorem fnR_of {P : Program} {w : World} {K : PySem.W.Frag} {mg : Str → Option Value} {base : Heap} {k : Nat} {f : Addr} {fd : FuncData} {ps : List Str} {sp : Sp} (F : FnOk P w K mg base CX0 k f fd ps sp) (b : Binds K fd ps []) : FnR P w K mg base CX0 k f sp := fun Ar out st G us vs R E hr e0 r h => by
  have KX : K.In st.heap := e0.mod.kin.keeps fun b o e => (e0.bs b o e).1
  have l2 : us.length = ps.length := r.length.symm.trans (F.len _ _ _ _ h)
  have b2 := b st us KX (by simpa using l2)
  rw [List.append_nil] at b2
  exact F.run Ar out st G ⟨us, []⟩ us vs R E hr e0 b2 r h
/-- the class's property f: its getter keeps sp -/
structure GP (P : Program) (w : World) (K : PySem.W.Frag) (mg : Str → Option Value) (base : Heap) (C : Addr) (f : Str) (k : Nat) (sp : Sp) : Prop where
  ex : ∃ p g, PySem.W.findIn K (.ref C) f = some (some (.ref p)) ∧ PySem.W.specialIn K (.ref p) "__get__" = some (some (.builtin "property.__get__")) ∧ PySem.W.takesIn K (.ref p) = some true ∧ (∃ rest, PySem.W.recIn K p "property" = some (.ref g :: rest)) ∧ FnR P w K mg base CX0 k g sp
theorem pe_p1 {X : Cx} {C : Addr} {f : Str} {k : Nat} {sp : Sp} {e : Expr} {te : TE} {pos : Pos} (c : SCls X.K C) (G : GP X.prog X.w X.K X.mg X.base C f k sp) (hr : Room (k + 1) X.A) (he : PE X e te) (hb : attributeBase e f X.env (eval e X.env) = eval e X.env := by rfl) : PE X (.Attribute e f pos) (tPropSl C sp E0 te) := by
  obtain ⟨p, g, h1, h2, h3, h4, h5⟩ := G.ex
  exact pe_propSl he c h1 h2 h3 h4 h5 hr (fun _ _ _ _ h => h) hb
/-- the class's method m -/
structure GMe (P : Program) (w : World) (K : PySem.W.Frag) (mg : Str → Option Value) (base : Heap) (C : Addr) (m : Str) (k : Nat) (sp : Sp) : Prop where
  ex : ∃ g, Meth K C m g ∧ FnR P w K mg base CX0 k g sp
theorem pe_me {X : Cx} {C : Addr} {m : Str} {k : Nat} {sp : Sp} {o e : Expr} {es : List Expr} {ta : TE} {t : TA} {pos apos : Pos} {pl : Sem Bool} (c : SCls X.K C) (G : GMe X.prog X.w X.K X.mg X.base C m k sp) (hr : Room k X.A) (he : PE X o ta) (ha : PA X (e :: es) t)
    (hst : starEach (e :: es) X.env = (false, eval e X.env) :: starEach es X.env := by rfl) (hpl : (backTo pos (starEach es X.env)).any (·.1) = false := by rfl)
    (ht : eval (.Call (.Attribute o m apos) (e :: es) [] pos) X.env = (do
      let ov ← eval o X.env
      standAt apos.atName
      let (f, first) ← holding [ov] (getMethod ov m pl)
      callWith pos f first (backTo pos (starEach (e :: es) X.env)) (backToKw pos (keywordEach [] X.env))) := by rfl) : PE X (.Call (.Attribute o m apos) (e :: es) [] pos) (tMethSl C sp E0 ta t) := by
  obtain ⟨g, h1, h2⟩ := G.ex
  exact pe_methSl he c h1 h2 hr pass0 ha hst hpl ht
/-- the class's operator op: the other side an instance too, or an integer -/
structure GB (P : Program) (w : World) (K : PySem.W.Frag) (mg : Str → Option Value) (base : Heap) (C : Addr) (op : Operator) (k : Nat) (sp : Sp) : Prop where
  ex : ∃ g, PySem.W.findIn K (.ref C) (PySem.dunder op.info.2) = some (some (.ref g)) ∧ PySem.W.isFn K (.ref g) = true ∧ FnR P w K mg base CX0 k g sp
  first : PySem.W.selfFirst K C = true
  right : ∃ fo ro rc, PySem.W.findIn K (.ref C) (PySem.dunderR op.info.2) = some rc ∧ (rc = none ∨ ∃ g : Addr, rc = some (.ref g)) ∧ PySem.W.findIn K (.type "int") (PySem.dunder op.info.2) = some fo ∧ PySem.W.findIn K (.type "int") (PySem.dunderR op.info.2) = some ro ∧ PySem.W.subIn K (.type "int") (.ref C) = some false
def rBin (C : Addr) (sp : Sp) : R2 := fun x y H Q => (∃ a dx vs, x = .ref a ∧ Slt H a C dx vs) ∧ ((∃ b dy ws, y = .ref b ∧ Slt H b C dy ws) ∨ ∃ i, y = .int i) ∧ sp [x, y] H Q E0
theorem op_b {X : Cx} {C : Addr} {op : Operator} {k : Nat} {sp : Sp} (G : GB X.prog X.w X.K X.mg X.base C op k sp) (hr : Room k X.A) : OpR X (binaryOp op) (rBin C sp) := by
  obtain ⟨g, h1, h2, h3⟩ := G.ex
  obtain ⟨fo, ro, rc, r1, r2, r3, r4, r5⟩ := G.right
  intro pins st sg HH x y v u Qk J rx ry k
  obtain ⟨⟨a, dx, vs, e, hs⟩, ⟨b, dy, ws, e2, hs2⟩ | ⟨i, e2⟩, k⟩ := k
  · exact op_binS G.first h1 h2 h3 hr pass0 pins st sg HH x y v u Qk J rx ry ⟨a, dx, vs, b, dy, ws, e, e2, hs, hs2, k⟩
  · exact op_binI G.first h1 h2 r1 r2 r3 r4 r5 h3 hr pass0 pins st sg HH x y v u Qk J rx ry ⟨a, dx, vs, i, e, e2, hs, k⟩
structure GN (P : Program) (w : World) (K : PySem.W.Frag) (mg : Str → Option Value) (base : Heap) (C : Addr) (k : Nat) (sp : Sp) : Prop where
  ex : ∃ g, PySem.W.findIn K (.ref C) "__neg__" = some (some (.ref g)) ∧ PySem.W.isFn K (.ref g) = true ∧ FnR P w K mg base CX0 k g sp
theorem un_n {X : Cx} {C : Addr} {k : Nat} {sp : Sp} (G : GN X.prog X.w X.K X.mg X.base C k sp) (hr : Room k X.A) : UnR X (unaryOp .USub) (rNegS C sp E0) := by
  obtain ⟨g, h1, h2, h3⟩ := G.ex
  exact un_negS h1 h2 h3 hr pass0
structure GE (P : Program) (w : World) (K : PySem.W.Frag) (mg : Str → Option Value) (base : Heap) (C : Addr) (k : Nat) (sp : Sp) : Prop where
  ex : ∃ g, PySem.W.findIn K (.ref C) "__eq__" = some (some (.ref g)) ∧ PySem.W.isFn K (.ref g) = true ∧ FnR P w K mg base CX0 k g sp
  ne : PySem.W.findIn K (.ref C) "__ne__" = some (some (.builtin "object.__ne__"))
  ob : PySem.W.mroIn K C (.type "object") = some true
/-! ### slots whose places are known -/
def tSlC (C : Addr) (i : Nat) (ta : TE) : TE := fun σ H Q => ta σ H fun x H1 => ∃ a dx vs v, x = .ref a ∧ Slt H1 a C dx vs ∧ vs[i]? = some (some v) ∧ Q v H1
def sSlC (C : Addr) (i : Nat) (ta tv : TE) : TS := fun D σ H => tv σ H fun y H1 => ta σ H1 fun x H2 => ∃ a dx vs, x = .ref a ∧ Slt H2 a C dx vs ∧ D.nx σ (slH H2 a C dx (putS i y vs))
section
variable {X : Cx} {o e value : Expr} {f : Str} {pos pos' : Pos} {ta tv te : TE} {C p : Addr} {i : Nat}
theorem pe_slC (c : SCls X.K C) (s : ∃ p, Slot1 X.K C f p i) (he : PE X e te) (hb : attributeBase e f X.env (eval e X.env) = eval e X.env := by rfl) : PE X (.Attribute e f pos) (tSlC C i te) := by
  refine ⟨fun pins st sg G R J h => attr_of hb (thn (he.run pins st sg G _ J h) fun u s1 ⟨x, G1, J1, rx, a, dx, vs, v, ex, hs, hv, q⟩ => ?_)⟩
  obtain ⟨p, s⟩ := s
  subst ex
  obtain rfl : u = Value.ref a := rx
  exact getslot_ok J1 hs c s hv fun u' s2 J2 ru => ⟨v, G1, J2, ru, q⟩
theorem ps_slC (c : SCls X.K C) (s : ∃ p, Slot1 X.K C f p i) (ha : PE X o ta) (hv : PE X value tv) (hs : swapsWith value (some (.Attribute o f pos')) pos.line X.env = pure false := by rfl) : PS X (.Assign [.Attribute o f pos'] value pos) (sSlC C i ta tv) := by
  refine ⟨fun pins st sg G D J h => ?_⟩
  refine plainObj_wpAny_Assign_Attribute (thn (hv.run pins st sg G _ J h) fun u s1 ⟨y, G1, J1, ry, q⟩ => thn (ha.run pins s1 sg G1 _ J1 q) fun ov s2 ⟨x, G2, J2, rx, a, dx, vs, ex, hsl, q2⟩ => ?_) hs
  obtain ⟨p, s⟩ := s
  subst ex
  obtain rfl : ov = Value.ref a := rx
  exact setslot_ok J2 hsl c s ry fun s3 J3 => ⟨sg, _, J3, q2⟩
end
theorem hu64 {A : Around} {k : Nat} (hr : Room k A) : A.units + 64 < cLine := by have := hr.un; omega
theorem hu100 {A : Around} {k : Nat} (hr : Room k A) : A.units + 100 < cLine := by have := hr.un; omega

theorem ite_dec {c : Prop} [Decidable c] {A B : Prop} (h : c → A) (k : ¬ c → B) : if decide c = true then A else B := by
  by_cases z : c
  · rw [decide_eq_true z, if_pos rfl]; exact h z
  · rw [decide_eq_false z, if_neg Bool.false_ne_true]; exact k z
theorem ite_ndec {c : Prop} [Decidable c] {A B : Prop} (h : ¬ c → A) (k : c → B) : if (!decide c) = true then A else B := by
  by_cases z : c
  · rw [decide_eq_true z]; exact k z |> fun y => by simpa using y
  · rw [decide_eq_false z]; have y := h z; simpa using y
/-! ### isinstance of any value -/
/-- the type of a value: as of TyX, or an instance with slots -/
inductive TyY (K : PySem.W.Frag) (H : Hp) : V → Value → Prop where
  | x {v : V} {t : Value} (h : TyX K H v t) : TyY K H v t
  | slt {a C dx : Addr} {vs : List (Option V)} (h : Slt H a C dx vs) (c : SCls K C) (i : SIsi K C) : TyY K H (.ref a) (.ref C)
def rIsiU (K : PySem.W.Frag) : List V → Hp → VK → Prop := fun xs H Q => ∃ (x c : V) (t u : Value) (b : Bool), xs = [x, c] ∧ ClsV c u ∧ TyY K H x t ∧ PySem.W.kitOne K t u = some b ∧ Q (.bl b) H
theorem call_isiU {X : Cx} : CallR X (.builtin "isinstance") (rIsiU X.K) := by
  intro pins st sg G xs us R J r h
  obtain ⟨x, c, t, u, b, rfl, hc, ty, hk, q⟩ := h
  cases ty with
  | x ty => exact call_isi pins st sg G _ us R J r ⟨x, c, t, u, b, rfl, hc, ty, hk, q⟩
  | slt hs c' i => exact call_isiSl u pins st sg G _ us R J r ⟨_, _, _, _, c, b, rfl, by cases hc <;> rfl, fun w rw => hc.eq rw, hs, c', i, hk, q⟩
theorem TyY.looks {X : Cx} {pins : List (Addr × Obj)} {sg : L2.St} {G : Hp} {st : Shared} {v : V} {t u : Value} (J : Inv X pins sg G st) (r : RelV v u) (ty : TyY X.K G v t) : PySem.W.Looks (model X.prog X.w) st.heap (typeOf u) t := by
  cases ty with
  | x ty => obtain ⟨Pk, Z, p, _⟩ := kit_of J r ty; exact Z.ty _ _ J.kIn p
  | slt hs c i => cases (show u = Value.ref _ from r); obtain ⟨_, _, _, ja, _⟩ := slt_inst J hs; exact ja.type
/-! ### x == y, x != y, x with slots and an own == -/
section
variable {X : Cx} {CX : CXT} {C g : Addr} {n : Nat} {sp : Sp} {E : XK}
def rCmpS (K : PySem.W.Frag) (C : Addr) (neg : Bool) (sp : Sp) (E : XK) : R2 := fun x y H Q => ∃ a dx vs t, x = .ref a ∧ Slt H a C dx vs ∧ TyY K H y t ∧ PySem.W.notFirst K C t = true ∧ sp [x, y] H (fun z H' => ∃ c, z = .bl c ∧ Q (.bl (if neg then !c else c)) H') E
theorem op_eqS (h2 : PySem.W.findIn X.K (.ref C) "__eq__" = some (some (.ref g))) (h3 : PySem.W.isFn X.K (.ref g) = true) (F : FnR X.prog X.w X.K X.mg X.base CX n g sp) (hr : Room n X.A) (hx : Passes CX X E) : OpR X (compareOp .Eq) (rCmpS X.K C false sp E) := by
  intro pins st sg HH x y v u Qk J rx ry k
  obtain ⟨a, dx, vs, t, rfl, sa, ty, hn, k⟩ := k
  cases (show v = Value.ref a from rx)
  obtain ⟨_, _, _, ja, _⟩ := slt_inst J sa
  obtain ⟨_, fr⟩ := J.fr
  show wpAny _ _ (richCompare .Eq (.ref a) u) _ _ _
  refine PySem.W.cmp_K (op := .Eq) hr.units0 fr J.ok.mod.kin ja (ty.looks J ry) hn h2 h3 ?_
  refine wpAny_mono (wpAny_call (run_fnR (us := [.ref a, u]) (vs := [.ref a, y]) F hr hx J (.cons rfl (.cons ry .nil)) k)) (fun _ _ ⟨z, H3, J3, rz, c, ez, k3⟩ => ?_) fun _ _ e => e
  subst ez
  exact cmpback rz ⟨_, H3, J3, rz, k3⟩
theorem op_neS (h1 : PySem.W.findIn X.K (.ref C) "__ne__" = some (some (.builtin "object.__ne__"))) (h2 : PySem.W.findIn X.K (.ref C) "__eq__" = some (some (.ref g))) (h3 : PySem.W.isFn X.K (.ref g) = true) (h4 : PySem.W.mroIn X.K C (.type "object") = some true)
    (F : FnR X.prog X.w X.K X.mg X.base CX n g sp) (hr : Room (n + 1) X.A) (hx : Passes CX X E) : OpR X (compareOp .NotEq) (rCmpS X.K C true sp E) := by
  intro pins st sg HH x y v u Qk J rx ry k
  obtain ⟨a, dx, vs, t, rfl, sa, ty, hn, k⟩ := k
  cases (show v = Value.ref a from rx)
  obtain ⟨_, _, _, ja, _⟩ := slt_inst J sa
  refine ne_slot (by have := hr.un; omega) J.kIn ja (ty.looks J ry) hn h1 h2 h3 h4 ?_
  refine wpAny_mono (wpAny_call (run_at (A := X.A.in1) (us := [.ref a, u]) (ws := [.ref a, y]) F hr.in1 J.env0.in1 hx J (.cons rfl (.cons ry .nil)) k)) (fun _ _ ⟨z, H3, J3, rz, c, ez, k3⟩ => ?_) fun _ _ e => e
  subst ez
  cases (show _ = Value.bool c from rz)
  exact ⟨c, rfl, .bl (!c), H3, J3, rfl, k3⟩
end
theorem op_eqE {X : Cx} {C : Addr} {k : Nat} {sp : Sp} (G : GE X.prog X.w X.K X.mg X.base C k sp) (hr : Room k X.A) : OpR X (compareOp .Eq) (rCmpS X.K C false sp E0) := by
  obtain ⟨g, h1, h2, h3⟩ := G.ex
  exact op_eqS h1 h2 h3 hr pass0
theorem op_neE {X : Cx} {C : Addr} {k : Nat} {sp : Sp} (G : GE X.prog X.w X.K X.mg X.base C k sp) (hr : Room (k + 1) X.A) : OpR X (compareOp .NotEq) (rCmpS X.K C true sp E0) := by
  obtain ⟨g, h1, h2, h3⟩ := G.ex
  exact op_neS G.ne h1 h2 G.ob h3 hr pass0
end PF

set_option Elab.async false
set_option linter.all false
set_option maxRecDepth 100000
set_option maxHeartbeats 4000000
namespace PF
open PySem PySem.Spec PyProof.Rows L2 SlX
/-! ### plain numbers -/
/-- an integer of fewer than n bits -/
def Bd (n : Nat) (i : Int) : Prop := i.natAbs < 2 ^ n
theorem Bd.mono {n m : Nat} {i : Int} (h : Bd n i) (l : n ≤ m) : Bd m i := Nat.lt_of_lt_of_le h (Nat.pow_le_pow_right (by decide) l)
theorem Bd.mul {n m : Nat} {i j : Int} (h : Bd n i) (k : Bd m j) : Bd (n + m) (i * j) := wide_lt h k
theorem Bd.add {n m : Nat} {i j : Int} (h : Bd n i) (k : Bd n j) (l : n + 1 = m) : Bd m (i + j) := by
  unfold Bd at *; subst l; rw [Nat.pow_succ]; omega
theorem Bd.sub {n m : Nat} {i j : Int} (h : Bd n i) (k : Bd n j) (l : n + 1 = m) : Bd m (i - j) := by
  unfold Bd at *; subst l; rw [Nat.pow_succ]; omega
theorem Bd.neg {n : Nat} {i : Int} (h : Bd n i) : Bd n (-i) := by unfold Bd at *; omega
theorem Bd.le {n : Nat} {i j : Int} (h : Bd n j) (l : i.natAbs ≤ j.natAbs) : Bd n i := Nat.lt_of_le_of_lt l h
theorem Bd.mulx {n m : Nat} {i j : Int} (h : Bd n i) (k : Bd m j) (l : n + m ≤ 134217728) : CMulX i j := mulx_ok h k l
theorem Bd.dvz {n : Nat} {i j : Int} (h : Bd n j) (h0 : j ≠ 0) (l : n ≤ 9000) : CDvz i j := by
  refine ⟨h0, ?_⟩
  have a : j.natAbs ≠ 0 := by omega
  have b := (Nat.log2_lt a).mpr h
  omega
theorem bd_sm {i : Int} {n : Nat} (h : i.natAbs < 1024) (l : 10 ≤ n) : Bd n i := Nat.lt_of_lt_of_le h (Nat.le_trans (show 1024 ≤ 2 ^ 10 by decide) (Nat.pow_le_pow_right (by decide) l))

structure Nm where
  t : Int
  p : Int
  r : Int
  b : Int
deriving DecidableEq
def gcd3 (t p b : Int) : Int := ((Nat.gcd (Nat.gcd t.natAbs p.natAbs) b.natAbs : Nat) : Int)
def share (t p b : Int) : Int := if 0 < b then gcd3 t p b else -gcd3 t p b
def mkNm (t p r b : Int) : Nm := ⟨t.fdiv (share t p b), p.fdiv (share t p b), if p = 0 then 0 else r, b.fdiv (share t p b)⟩
def b2 (c : Bool) : Int := if c then 1 else 0
def sgn (v : Int) : Int := b2 (decide (0 < v)) - b2 (decide (v < 0))
def sgnSum (t p r : Int) : Int := if p = 0 then sgn t else if 0 ≤ sgn t * sgn p then sgn p else sgn t * sgn (t * t - p * p * r)
def isq (n : Nat) : Nat := if h : n = 0 then 0 else if (2 * isq (n / 4) + 1) * (2 * isq (n / 4) + 1) ≤ n then 2 * isq (n / 4) + 1 else 2 * isq (n / 4)
termination_by n
decreasing_by all_goals omega
theorem isq_ok (n : Nat) : isq n * isq n ≤ n ∧ n < (isq n + 1) * (isq n + 1) := by
  induction n using Nat.strongRecOn with
  | ind n ih =>
    rw [isq]
    split
    · next h => subst h; decide
    · next h =>
      obtain ⟨h1, h2⟩ := ih (n / 4) (by omega)
      generalize isq (n / 4) = q at *
      have e1 : (2 * q) * (2 * q) = 4 * (q * q) := by grind
      have e2 : (2 * q + 1 + 1) * (2 * q + 1 + 1) = 4 * ((q + 1) * (q + 1)) := by grind
      split
      · next h3 => exact ⟨h3, by rw [e2]; omega⟩
      · next h3 => exact ⟨by rw [e1]; omega, by omega⟩
def floorN (t p r b : Int) : Int := if p = 0 then t.fdiv b else (t + (if 0 < p then (isq (p * p * r).toNat : Int) else -(isq (p * p * r).toNat : Int) - 1)).fdiv b
def isRootB (v : Int) : Bool := decide (2 ≤ v) && decide (v ≤ 999) && ((List.range (isq v.toNat - 1)).map fun i : Nat => !decide (v.fmod ((2 + (i : Int)) * (2 + (i : Int))) = 0)).all id
theorem isq_le {n q : Nat} (h : n < (q + 1) * (q + 1)) : isq n ≤ q := by
  have h1 := (isq_ok n).1
  refine Nat.le_of_not_lt fun l => ?_
  have := Nat.mul_le_mul (show q + 1 ≤ isq n from l) (show q + 1 ≤ isq n from l)
  omega
theorem le_isq {n q : Nat} (h : q * q ≤ n) : q ≤ isq n := by
  have h1 := (isq_ok n).2
  refine Nat.le_of_not_lt fun l => ?_
  have := Nat.mul_le_mul (show isq n + 1 ≤ q from l) (show isq n + 1 ≤ q from l)
  omega
/-- Newton's step stays above the root -/
theorem newton_ge {a f r : Nat} (hf : 0 < f) (hr : r * r ≤ a) : r ≤ (f + a / f) / 2 := by
  have h1 : a < (a / f + 1) * f := Nat.lt_mul_of_div_lt (Nat.lt_succ_self _) hf
  generalize a / f = q at *
  refine Nat.le_of_not_lt fun l => ?_
  have l2 : f + (q + 1) ≤ 2 * r := by omega
  have l3 := Nat.mul_le_mul l2 l2
  have e : (f + (q + 1)) * (f + (q + 1)) + 0 = (f + (q + 1)) * (f + (q + 1)) := rfl
  rcases Nat.le_total f (q + 1) with c | c
  · obtain ⟨d, hd⟩ := Nat.exists_eq_add_of_le c
    rw [hd] at l3 h1
    have : (f + (f + d)) * (f + (f + d)) = 4 * ((f + d) * f) + d * d := by grind
    have : 2 * r * (2 * r) = 4 * (r * r) := by grind
    omega
  · obtain ⟨d, hd⟩ := Nat.exists_eq_add_of_le c
    rw [hd] at l3 h1
    have : (q + 1 + d + (q + 1)) * (q + 1 + d + (q + 1)) = 4 * ((q + 1) * (q + 1 + d)) + d * d := by grind
    have : 2 * r * (2 * r) = 4 * (r * r) := by grind
    omega
theorem newton_end {a f : Nat} (hf : 0 < f) (h : f ≤ (f + a / f) / 2) : f ≤ isq a := by
  refine le_isq ?_
  have h1 : f ≤ a / f := by omega
  exact Nat.le_trans (Nat.mul_le_mul_right f h1) (Nat.div_mul_le_self a f)
theorem isq_bits (a : Nat) {k : Nat} (h : a < 2 ^ (2 * k)) : isq a ≤ 2 ^ k := by
  refine isq_le (Nat.lt_of_lt_of_le h ?_)
  rw [show 2 * k = k + k by omega, Nat.pow_add]
  exact Nat.mul_le_mul (Nat.le_succ _) (Nat.le_succ _)
theorem b2_bd (c : Bool) : (b2 c).natAbs ≤ 1 := by cases c <;> decide
theorem sgn_abs (v : Int) : (sgn v).natAbs ≤ 1 := by
  unfold sgn b2
  by_cases h : 0 < v <;> by_cases k : v < 0 <;> simp [h, k] <;> omega
theorem sgn_bd (v : Int) : Bd 10 (sgn v) := bd_sm (by have := sgn_abs v; omega) (by decide)
/-- the root of two numbers that go together -/
def cRoot (a b : Nm) : Int := if a.r = 0 then b.r else a.r
def Cm (a b : Nm) : Prop := a.r = 0 ∨ b.r = 0 ∨ a.r = b.r
def addN (a b : Nm) : Nm := mkNm (a.t * b.b + b.t * a.b) (a.p * b.b + b.p * a.b) (cRoot a b) (a.b * b.b)
def subN (a b : Nm) : Nm := mkNm (a.t * b.b - b.t * a.b) (a.p * b.b - b.p * a.b) (cRoot a b) (a.b * b.b)
def mulN (a b : Nm) : Nm := mkNm (a.t * b.t + a.p * b.p * cRoot a b) (a.t * b.p + a.p * b.t) (cRoot a b) (a.b * b.b)
def sizeN (a b : Nm) : Int := b.t * b.t - b.p * b.p * cRoot a b
def overN (a b : Nm) : Nm := mkNm ((a.t * b.t - a.p * b.p * cRoot a b) * b.b) ((a.p * b.t - a.t * b.p) * b.b) (cRoot a b) (sizeN a b * a.b)
def negN (a : Nm) : Nm := mkNm (-a.t) (-a.p) a.r a.b
def mirN (a : Nm) : Nm := mkNm a.t (-a.p) a.r a.b
def normN (a : Nm) : Nm := mkNm (a.t * a.t - a.p * a.p * a.r) 0 0 (a.b * a.b)
/-- a number of fewer than k bits -/
structure Gd (k : Nat) (n : Nm) : Prop where
  b0 : n.b ≠ 0
  t : Bd k n.t
  p : Bd k n.p
  b : Bd k n.b
  r : Bd 10 n.r
  r0 : 0 ≤ n.r
theorem cRoot_bd {k : Nat} {a b : Nm} (h : Gd k a) (g : Gd k b) : Bd 10 (cRoot a b) := by
  unfold cRoot; split
  · exact g.r
  · exact h.r
theorem share_ne {t p b : Int} (h : b ≠ 0) : share t p b ≠ 0 := by
  unfold share gcd3
  have : 0 < Nat.gcd (Nat.gcd t.natAbs p.natAbs) b.natAbs := Nat.gcd_pos_of_pos_right _ (by omega)
  split <;> omega
theorem share_bd {t p b : Int} {n : Nat} (h : b ≠ 0) (k : Bd n b) : Bd n (share t p b) := by
  have l : Nat.gcd (Nat.gcd t.natAbs p.natAbs) b.natAbs ≤ b.natAbs := Nat.gcd_le_right _ (by omega)
  unfold Bd share gcd3 at *
  split <;> omega
end PF

set_option Elab.async false
set_option linter.all false
set_option maxRecDepth 100000
set_option maxHeartbeats 4000000
namespace PF
open PySem PySem.Spec PyProof.Rows L2 SlX
def topS (i : Nat) : Stmt := PySem.Challenge.pw_pieceround_k03_numbers_compared.main.body.getD i (.Pass ⟨0, 0, 0, 0⟩)
/-! ### what the top has written -/
structure Free (mg : Str → Option Value) : Prop where
  b_abs : mg "abs" = none
  b_all : mg "all" = none
  b_bool : mg "bool" = none
  b_int : mg "int" = none
  b_isinstance : mg "isinstance" = none
  b_len : mg "len" = none
  b_list : mg "list" = none
  b_max : mg "max" = none
  b_min : mg "min" = none
  b_range : mg "range" = none
  b_repr : mg "repr" = none
  b_str : mg "str" = none
/-! ### promises -/
def spIsWhole (K : PySem.W.Frag) : Sp := fun vs H Q _ => ∃ x t b, vs = [x] ∧ TyY K H x t ∧ PySem.W.kitOne K t (.type "int") = some b ∧ (b = true → ∃ i, x = .int i) ∧ Q (.bl b) H
def spGcd : Sp := fun vs H Q _ => ∃ a b : Int, vs = [.int a, .int b] ∧ 0 ≤ a ∧ 0 ≤ b ∧ Q (.int ((Nat.gcd a.toNat b.toNat : Nat) : Int)) H
def spRoot : Sp := fun vs H Q _ => ∃ a : Int, vs = [.int a] ∧ 0 ≤ a ∧ Bd 8000 a ∧ Q (.int (isq a.toNat : Int)) H
def spIsRoot : Sp := fun vs H Q _ => ∃ a : Int, vs = [.int a] ∧ ∀ H', Same H H' → Q (.bl (isRootB a)) H'
def spSign : Sp := fun vs H Q _ => ∃ a : Int, vs = [.int a] ∧ Q (.int (sgn a)) H
def spSignSum : Sp := fun vs H Q _ => ∃ t p r : Int, vs = [.int t, .int p, .int r] ∧ Bd 1000000 t ∧ Bd 1000000 p ∧ Bd 10 r ∧ Q (.int (sgnSum t p r)) H
def spFloor : Sp := fun vs H Q _ => ∃ t p r b : Int, vs = [.int t, .int p, .int r, .int b] ∧ Bd 3900 p ∧ 0 ≤ r ∧ Bd 10 r ∧ Bd 9000 b ∧ b ≠ 0 ∧ Q (.int (floorN t p r b)) H
section
variable {P : Program} {w : World} {K : PySem.W.Frag} {mg : Str → Option Value} {base : Heap} {f : Addr} {fd : FuncData}
theorem sc_is_whole : FnScope ["value"] ["value"] (defScope (topS 6)) := ⟨rfl, rfl, rfl, by decide +kernel, rfl, by decide +kernel, by decide +kernel⟩
theorem ok_is_whole (F : Fun K "is_whole" "is_whole" (topS 6) f fd) (fr : Free mg) : FnOk P w K mg base CX0 2 f fd ["value"] (spIsWhole K) := by
  refine F.ok sc_is_whole (fun vs H Q E ⟨_, _, _, e, _⟩ => by rw [e]; rfl) (fun cdv A outer s H vs Q E hr h => ⟨_, (pss_one (ps_ret (pe_and (pe_callB call_isiU (by rfl) fr.b_isinstance (by decide +kernel) (pa_cons (pv 0) (pa_cons (pe_bltn (v := .ty "int") (by rfl) fr.b_int (by decide +kernel) rfl) pa_nil))) (pe_one (pe_not (pe_callB call_isiU (by rfl) fr.b_isinstance (by decide +kernel) (pa_cons (pv 0) (pa_cons (pe_bltn (v := .ty "bool") (by rfl) fr.b_bool (by decide +kernel) rfl) pa_nil)))))))), ?_⟩)
  obtain ⟨x, t, b, rfl, ty, hk, hi, q⟩ := h
  refine ⟨x, rfl, x, .ty "int", t, _, b, rfl, .ty _, ty, hk, b, rfl, ?_⟩
  cases b with
  | false => exact q
  | true =>
    obtain ⟨i, rfl⟩ := hi rfl
    exact ⟨_, rfl, _, .ty "bool", _, _, false, rfl, .ty _, .x (.base (.int i)), kit_ty (by decide +kernel), false, rfl, q⟩
theorem sc_greatest_divisor : FnScope ["one", "other"] ["one", "other"] (defScope (topS 7)) := ⟨rfl, rfl, rfl, by decide +kernel, rfl, by decide +kernel, by decide +kernel⟩
theorem ok_gcd (F : Fun K "greatest_divisor" "greatest_divisor" (topS 7) f fd) : FnOk P w K mg base CX0 2 f fd ["one", "other"] spGcd := by
  refine F.ok sc_greatest_divisor (fun vs H Q E ⟨_, _, e, _⟩ => by rw [e]; rfl) (fun cdv A outer s H vs Q E hr h => ⟨_, (pss_cons (ps_while PassesOwn.never (pt_cmpR op_ne (pv 1) pe_int (nomark _)) (pss_one (ps_par (i := 0) (j := 1) (by rfl) sc_greatest_divisor.nd rfl rfl (by decide) rfl rfl (pa_cons (pv 1) (pa_cons (pe_op op_modN (pv 0) (pv 1)) pa_nil)) (by rfl))))
  (pss_one (ps_ret (pv 0)))), ?_⟩)
  obtain ⟨a, b, rfl, ha, hb, q⟩ := h
  refine ⟨fun m σ H' => ∃ x y : Int, σ = [some (.int x), some (.int y)] ∧ 0 ≤ x ∧ 0 ≤ y ∧ Nat.gcd x.toNat y.toNat = Nat.gcd a.toNat b.toNat ∧ m = y.toNat ∧ H' = H, ⟨_, a, b, rfl, ha, hb, rfl, rfl, rfl⟩, ?_⟩
  rintro m σ H' ⟨x, y, rfl, hx, hy, hg, rfl, rfl⟩
  refine ⟨_, rfl, rfl, _, rfl, ?_⟩
  by_cases c : y = 0
  · subst c
    refine ⟨_, rfl, ?_⟩
    simp only [Int.toNat_zero, Nat.gcd_zero_right] at hg
    rw [show (x : Int) = ((Nat.gcd a.toNat b.toNat : Nat) : Int) by omega]
    exact q
  · rw [decide_eq_false (show ¬ V.int y = V.int 0 from fun e => c (V.int.inj e))]
    refine ⟨fun σ' H'' => σ' = [some (.int y), some (.int (x.fmod y))] ∧ H'' = H', ?_, ?_⟩
    · rintro _ _ ⟨rfl, rfl⟩
      have e : x.fmod y = x % y := Int.fmod_eq_emod_of_nonneg x hy
      have h1 : 0 ≤ x % y := Int.emod_nonneg x c
      have h2 : x % y < y := Int.emod_lt_of_pos x (by omega)
      refine ⟨_, ?_, y, x.fmod y, rfl, hy, by omega, ?_, rfl, rfl⟩
      · rw [e]; omega
      · rw [e, ← hg, show (x % y).toNat = x.toNat % y.toNat from Int.toNat_emod hx hy, Nat.gcd_comm x.toNat y.toNat, Nat.gcd_rec y.toNat x.toNat, Nat.gcd_comm]
    · exact ⟨_, rfl, _, rfl, _, rfl, _, _, rfl, rfl, c, _, _, rfl, rfl, rfl⟩
theorem sc_whole_root : FnScope ["square", "found", "less"] ["square"] (defScope (topS 8)) := ⟨rfl, rfl, rfl, by decide +kernel, rfl, by decide +kernel, by decide +kernel⟩
theorem ok_whole_root (F : Fun K "whole_root" "whole_root" (topS 8) f fd) : FnOk P w K mg base CX0 2 f fd ["square"] spRoot := by
  refine F.ok sc_whole_root (fun vs H Q E ⟨_, e, _⟩ => by rw [e]; rfl) (fun cdv A outer s H vs Q E hr h => ⟨_, (pss_cons (ps_if (pt_cmpR op_eq (pv 0) pe_int (nomark _)) (pss_one (ps_ret pe_int)) pss_nil)
  (pss_cons (ps_set (i := 1) sc_whole_root.nd rfl (by first | exact Or.inl rfl | exact Or.inr rfl) (pe_op op_shlW pe_int (pe_op op_fdivZ (pe_op op_add (pe_bits (pv 0)) pe_int) pe_int)))
  (pss_cons (ps_whileW PassesOwn.never (ptw_cmp op_lt (pew_named (i := 2) sc_whole_root.nd rfl (by first | exact Or.inl rfl | exact Or.inr rfl) (pew_of (pe_op op_fdivZ (pe_op op_add (pv 1) (pe_op op_fdivZ (pv 0) (pv 1))) pe_int))) (pv 1) (nomark _)) (pss_one (ps_set (i := 1) sc_whole_root.nd rfl (by first | exact Or.inl rfl | exact Or.inr rfl) (pv 2))) pss_nil)
  (pss_one (ps_ret (pv 1)))))), ?_⟩)
  obtain ⟨a, rfl, ha, hb, q⟩ := h
  refine ⟨_, rfl, rfl, _, rfl, ite_dec (fun c => ?_) fun c => ?_⟩
  · cases c
    rw [show isq (0 : Int).toNat = 0 by rw [isq]; rfl] at q
    exact q
  replace c : ¬ a = 0 := fun e => c (congrArg V.int e)
  have bits : Builtin.Int.intBits a = a.natAbs.log2 + 1 := by unfold Builtin.Int.intBits; rw [if_neg (by simpa using c)]
  have lt : a.toNat < 2 ^ Builtin.Int.intBits a := by
    rw [bits, show a.toNat = a.natAbs by omega]
    exact (Nat.log2_lt (by omega)).mp (Nat.lt_succ_self _)
  have lb : Builtin.Int.intBits a ≤ 8000 := by
    rw [bits]
    exact (Nat.log2_lt (by omega)).mpr hb
  generalize hn : Builtin.Int.intBits a = n at *
  have hk : ((n : Int) + 1).fdiv 2 = (((n + 1) / 2 : Nat) : Int) := by rw [Int.fdiv_eq_ediv_of_nonneg _ (by decide)]; omega
  obtain ⟨k, ek⟩ : ∃ k, k = (n + 1) / 2 := ⟨_, rfl⟩
  rw [← ek] at hk
  have r0 : isq a.toNat ≤ 2 ^ k := isq_bits _ (Nat.lt_of_lt_of_le lt (Nat.pow_le_pow_right (by decide) (by omega)))
  refine ⟨_, rfl, _, rfl, ?_⟩
  rw [hn]
  refine ⟨_, _, rfl, rfl, _, _, rfl, rfl, ⟨by decide, by decide⟩, ?_⟩
  dsimp only
  rw [hk]
  refine ⟨_, _, rfl, rfl, ⟨by omega, by rw [show Builtin.Int.intBits 1 = 1 by decide]; omega⟩, ?_⟩
  dsimp only
  rw [Int.toNat_natCast, Int.one_mul]
  refine ⟨fun m σ H' => ∃ (g : Nat) (y : Option V), σ = [some (.int a), some (.int (g : Int)), y] ∧ 0 < g ∧ g ≤ 2 ^ k ∧ isq a.toNat ≤ g ∧ g = m ∧ H' = H, ⟨_, 2 ^ k, none, ?_, Nat.two_pow_pos k, Nat.le_refl _, r0, rfl, rfl⟩, ?_⟩
  · rw [show ((2 ^ k : Nat) : Int) = (2 : Int) ^ k by simp]; rfl
  rintro m σ H' ⟨g, y, rfl, hg, hg2, hr0, rfl, rfl⟩
  have bg : Bd 9000 (g : Int) := by
    show (g : Int).natAbs < 2 ^ 9000
    rw [Int.natAbs_natCast]
    exact Nat.lt_of_le_of_lt hg2 (Nat.pow_lt_pow_right (by decide) (by omega))
  have e1 : a.fdiv (g : Int) = ((a.toNat / g : Nat) : Int) := by
    rw [Int.fdiv_eq_ediv_of_nonneg _ (by omega), Int.natCast_ediv, Int.toNat_of_nonneg ha]
  have e2 : ((g : Int) + a.fdiv (g : Int)).fdiv 2 = (((g + a.toNat / g) / 2 : Nat) : Int) := by
    rw [e1, Int.fdiv_eq_ediv_of_nonneg _ (by decide)]; omega
  refine ⟨_, rfl, _, rfl, _, rfl, _, _, rfl, rfl, bg.dvz (by omega) (Nat.le_refl _), _, _, rfl, rfl, _, _, rfl, rfl, ⟨by decide, by decide⟩, ?_⟩
  dsimp only
  rw [e2]
  refine ⟨_, rfl, _, _, rfl, rfl, _, rfl, ?_⟩
  have n1 := newton_ge hg (isq_ok a.toNat).1
  refine ite_dec (fun c2 => ?_) fun c2 => ?_
  · refine ⟨fun σ' H'' => σ' = [some (.int a), some (.int (((g + a.toNat / g) / 2 : Nat) : Int)), some (.int (((g + a.toNat / g) / 2 : Nat) : Int))] ∧ H'' = H', ?_, ?_⟩
    · rintro _ _ ⟨rfl, rfl⟩
      refine ⟨_, (show (g + a.toNat / g) / 2 < g by omega), _, _, rfl, ?_, by omega, n1, rfl, rfl⟩
      refine Nat.lt_of_lt_of_le ?_ n1
      exact Nat.lt_of_lt_of_le Nat.zero_lt_one (le_isq (by omega))
    · exact ⟨_, rfl, rfl, rfl⟩
  · have n2 := newton_end hg (show g ≤ (g + a.toNat / g) / 2 by omega)
    refine ⟨_, rfl, ?_⟩
    rw [show (g : Int) = (isq a.toNat : Int) by omega]
    exact q
theorem sc_sign_of : FnScope ["value"] ["value"] (defScope (topS 15)) := ⟨rfl, rfl, rfl, by decide +kernel, rfl, by decide +kernel, by decide +kernel⟩
theorem ok_sign_of (F : Fun K "sign_of" "sign_of" (topS 15) f fd) (fr : Free mg) : FnOk P w K mg base CX0 2 f fd ["value"] spSign := by
  refine F.ok sc_sign_of (fun vs H Q E ⟨_, e, _⟩ => by rw [e]; rfl) (fun cdv A outer s H vs Q E hr h => ⟨_, (pss_one (ps_ret (pe_op op_sub (pe_callTy call_int1 (by rfl) fr.b_int (by decide +kernel) (pa_cons (pe_cmpR op_gt (pv 0) pe_int (nomark _)) pa_nil)) (pe_callTy call_int1 (by rfl) fr.b_int (by decide +kernel) (pa_cons (pe_cmpR op_lt (pv 0) pe_int (nomark _)) pa_nil))))), ?_⟩)
  obtain ⟨a, rfl, q⟩ := h
  exact ⟨_, rfl, _, _, rfl, rfl, .inr ⟨_, rfl, _, rfl, _, _, rfl, rfl, .inr ⟨_, rfl, _, _, rfl, rfl, q⟩⟩⟩
theorem sc_sign_of_sum : FnScope ["top", "part", "root"] ["top", "part", "root"] (defScope (topS 16)) := ⟨rfl, rfl, rfl, by decide +kernel, rfl, by decide +kernel, by decide +kernel⟩
theorem ok_sign_of_sum (F : Fun K "sign_of_sum" "sign_of_sum" (topS 16) f fd) (G_sign_of : GD P w K mg base "sign_of" 2 spSign) : FnOk P w K mg base CX0 3 f fd ["top", "part", "root"] spSignSum := by
  refine F.ok sc_sign_of_sum (fun vs H Q E ⟨_, _, _, e, _⟩ => by rw [e]; rfl) (fun cdv A outer s H vs Q E hr h => ⟨_, (pss_cons (ps_if (pt_cmpR op_eq (pv 1) pe_int (nomark _)) (pss_one (ps_ret (pe_c1 G_sign_of (hr.mono (by decide)) (pa_cons (pv 0) pa_nil)))) pss_nil)
  (pss_cons (ps_if (pt_cmpR op_ge (pe_op op_mulX (pe_c1 G_sign_of (hr.mono (by decide)) (pa_cons (pv 0) pa_nil)) (pe_c1 G_sign_of (hr.mono (by decide)) (pa_cons (pv 1) pa_nil))) pe_int (nomark _)) (pss_one (ps_ret (pe_c1 G_sign_of (hr.mono (by decide)) (pa_cons (pv 1) pa_nil)))) pss_nil)
  (pss_one (ps_ret (pe_op op_mulX (pe_c1 G_sign_of (hr.mono (by decide)) (pa_cons (pv 0) pa_nil)) (pe_c1 G_sign_of (hr.mono (by decide)) (pa_cons (pe_op op_sub (pe_op op_mulX (pv 0) (pv 0)) (pe_op op_mulX (pe_op op_mulX (pv 1) (pv 1)) (pv 2))) pa_nil))))))), ?_⟩)
  obtain ⟨t, p, r, rfl, ht, hp, hr', q⟩ := h
  unfold sgnSum at q
  refine ⟨_, rfl, rfl, _, rfl, ite_dec (fun c => ?_) fun c => ?_⟩
  · rw [if_pos (V.int.inj c)] at q
    exact ⟨_, rfl, t, rfl, q⟩
  rw [if_neg fun e => c (congrArg V.int e)] at q
  refine ⟨_, rfl, t, rfl, _, rfl, p, rfl, _, _, rfl, rfl, (sgn_bd t).mulx (sgn_bd p) (by decide), _, _, rfl, rfl, _, rfl, ite_dec (fun c => ?_) fun c => ?_⟩
  · rw [if_pos c] at q
    exact ⟨_, rfl, p, rfl, q⟩
  rw [if_neg c] at q
  exact ⟨_, rfl, t, rfl, _, rfl, _, rfl, _, _, rfl, rfl, ht.mulx ht (by decide), _, rfl, _, rfl, _, _, rfl, rfl, hp.mulx hp (by decide), _, rfl, _, _, rfl, rfl, (hp.mul hp).mulx hr' (by decide), _, _, rfl, rfl, _, rfl,
    _, _, rfl, rfl, (sgn_bd t).mulx (sgn_bd _) (by decide), q⟩
theorem sc_floor_of : FnScope ["top", "part", "root", "bottom", "below"] ["top", "part", "root", "bottom"] (defScope (topS 17)) := ⟨rfl, rfl, rfl, by decide +kernel, rfl, by decide +kernel, by decide +kernel⟩
theorem ok_floor_of (F : Fun K "floor_of" "floor_of" (topS 17) f fd) (G_whole_root : GD P w K mg base "whole_root" 2 spRoot) : FnOk P w K mg base CX0 3 f fd ["top", "part", "root", "bottom"] spFloor := by
  refine F.ok sc_floor_of (fun vs H Q E ⟨_, _, _, _, e, _⟩ => by rw [e]; rfl) (fun cdv A outer s H vs Q E hr h => ⟨_, (pss_cons (ps_if (pt_cmpR op_eq (pv 1) pe_int (nomark _)) (pss_one (ps_ret (pe_op op_fdivZ (pv 0) (pv 3)))) pss_nil)
  (pss_cons (ps_set (i := 4) sc_floor_of.nd rfl (by first | exact Or.inl rfl | exact Or.inr rfl) (pe_c1 G_whole_root (hr.mono (by decide)) (pa_cons (pe_op op_mulX (pe_op op_mulX (pv 1) (pv 1)) (pv 2)) pa_nil)))
  (pss_one (ps_ret (pe_op op_fdivZ (pe_op op_add (pv 0) (pe_ifExp (pt_cmpR op_gt (pv 1) pe_int (nomark _)) (pv 4) (pe_op op_sub (pe_un un_neg (pv 4)) pe_int))) (pv 3)))))), ?_⟩)
  obtain ⟨t, p, r, b, rfl, hp, h0, hr', hb, b0, q⟩ := h
  unfold floorN at q
  refine ⟨_, rfl, rfl, _, rfl, ite_dec (fun c => ?_) fun c => ?_⟩
  · rw [if_pos (V.int.inj c)] at q
    exact ⟨_, rfl, _, rfl, _, _, rfl, rfl, hb.dvz b0 (Nat.le_refl _), q⟩
  rw [if_neg fun e => c (congrArg V.int e)] at q
  have pp : 0 ≤ p * p := by rw [← Int.natAbs_mul_self]; omega
  have bd := (hp.mul hp).mul hr'
  refine ⟨_, rfl, _, rfl, _, _, rfl, rfl, hp.mulx hp (by decide), _, rfl, _, _, rfl, rfl, (hp.mul hp).mulx hr' (by decide), _, rfl, Int.mul_nonneg pp h0, bd.mono (by decide), ?_⟩
  refine ⟨_, rfl, _, rfl, _, _, rfl, rfl, _, rfl, ite_dec (fun c => ?_) fun c => ?_⟩
  · rw [if_pos c] at q
    exact ⟨_, rfl, _, _, rfl, rfl, _, rfl, _, _, rfl, rfl, hb.dvz b0 (Nat.le_refl _), q⟩
  · rw [if_neg c] at q
    exact ⟨_, rfl, _, rfl, _, _, rfl, rfl, _, _, rfl, rfl, _, rfl, _, _, rfl, rfl, hb.dvz b0 (Nat.le_refl _), q⟩
theorem sc_is_root : FnScope ["value", "side"] ["value"] (defScope (topS 14)) := ⟨rfl, rfl, rfl, by decide +kernel, rfl, by decide +kernel, by decide +kernel⟩
theorem ok_is_root (F : Fun K "is_root" "is_root" (topS 14) f fd) (fr : Free mg) (g_MAX_ROOT : ∃ tk, mg "MAX_ROOT" = some (.int 999 tk)) (g_LEAST_ROOT : ∃ tk, mg "LEAST_ROOT" = some (.int 2 tk))
    (G_whole_root : GD P w K mg base "whole_root" 2 spRoot) (G_is_whole : GD P w K mg base "is_whole" 2 (spIsWhole K)) : FnOk P w K mg base CX0 3 f fd ["value"] spIsRoot := by
  obtain ⟨tk1, g_MAX_ROOT⟩ := g_MAX_ROOT
  obtain ⟨tk2, g_LEAST_ROOT⟩ := g_LEAST_ROOT
  refine F.ok sc_is_root (fun vs H Q E ⟨_, e, _⟩ => by rw [e]; rfl) (fun cdv A outer s H vs Q E hr h => ⟨_, (pss_cons (ps_if (PW.pt (pw_or (pt_not (pt_val (pe_c1 G_is_whole (hr.mono (by decide)) (pa_cons (pv 0) pa_nil)))) (pw_or1 (pt_not (pt_chain op_le op_le (pe_glob (v := .int 2) rfl g_LEAST_ROOT ⟨_, rfl⟩) (pv 0) (pe_glob (v := .int 999) rfl g_MAX_ROOT ⟨_, rfl⟩)))))) (pss_one (ps_ret pe_bl)) pss_nil)
  (pss_one (ps_ret (pe_callB (cr_all rfl) (by rfl) fr.b_all (by decide +kernel) (pa_cons (pe_lc (own := [("side", 1)]) (by rfl) sc_is_root.nd (pi_range2 (by rfl) fr.b_range (pa_cons pe_int (pa_cons (pe_op op_add (pe_c1 G_whole_root (hr.mono (by decide)) (pa_cons (pv 0) pa_nil)) pe_int) pa_nil))) (blkOk_by (own := [("side", 1)]) (N := ["value", "side"]) (sc := defScope (topS 14)) (by decide +kernel)) (fun _ _ _ _ _ => (pg_name (i := 1) sc_is_root.nd rfl (by first | exact Or.inl rfl | exact Or.inr rfl))) (fun _ _ _ _ _ => pts_nil) (fun _ _ _ _ _ => (pe_cmpR op_ne (pe_op op_modN (pv 0) (pe_op op_mulX (pv 1) (pv 1))) pe_int (nomark _)))) pa_nil))))), ?_⟩)
  obtain ⟨a, rfl, q⟩ := h
  unfold isRootB at q
  refine ⟨_, rfl, .int a, _, true, rfl, .x (.base (.int a)), kit_ty (by decide +kernel), fun _ => ⟨a, rfl⟩, true, rfl, ?_⟩
  have out : ¬ (2 ≤ a ∧ a ≤ 999) → Q (.bl false) H := fun c => by
    replace q := q H (Same.refl H)
    have e : (decide (2 ≤ a) && decide (a ≤ 999)) = false := by
      rw [Bool.and_eq_false_iff, decide_eq_false_iff_not, decide_eq_false_iff_not]; omega
    rw [e, Bool.false_and] at q
    exact q
  refine ⟨_, rfl, _, _, rfl, rfl, _, rfl, ite_dec (fun c => ?_) fun c => ?_⟩
  rotate_left
  · exact ⟨_, rfl, out (fun z => c z.1)⟩
  refine ⟨_, _, rfl, rfl, _, rfl, ?_⟩
  by_cases c2 : a ≤ 999
  rotate_left
  · rw [decide_eq_false c2]
    exact out fun z => c2 z.2
  rw [decide_eq_true c, decide_eq_true c2, Bool.true_and, Bool.true_and] at q
  rw [decide_eq_true c2]
  have rb : (isq a.toNat : Int) ≤ 31 := by
    have := isq_le (n := a.toNat) (q := 31) (by omega)
    omega
  generalize hr2 : isq a.toNat = r at *
  refine ⟨_, rfl, a, rfl, by omega, bd_sm (by omega) (by decide), ?_⟩
  rw [hr2]
  refine ⟨_, _, rfl, rfl, 2, _, rfl, ⟨by decide, by decide, by omega, by omega⟩, fun D hD => ?_⟩
  have en : ((r : Int) + 1 - 2).toNat = r - 1 := by omega
  rw [en]
  refine lc_range (lo := 2) (n := r - 1) (fun i H' => Same H H' ∧ H' D = some (.lst (((List.range i).map fun i : Nat => !decide (a.fmod ((2 + (i : Int)) * (2 + (i : Int))) = 0)).map V.bl))) ⟨?_, upd_same⟩ (fun i H' hi ⟨s1, hl⟩ => ?_) fun H' ⟨s1, hl⟩ => ?_
  · intro b o e
    rw [upd_ne (ne_of_none e hD)]
    exact e
  · refine ⟨rfl, ?_⟩
    have sm : Bd 10 (2 + (i : Int)) := bd_sm (by omega) (by decide)
    have nz : (2 + (i : Int)) * (2 + (i : Int)) ≠ 0 := Int.mul_ne_zero (by omega) (by omega)
    refine ⟨_, rfl, _, rfl, _, rfl, _, _, rfl, rfl, sm.mulx sm (by decide), _, _, rfl, rfl, nz, rfl, _, hl, ?_, ?_, ?_⟩
    · rw [List.length_map, List.length_map, List.length_range, sizeLine_eq]; omega
    · exact fun b o e => by
        rw [upd_ne (ne_of_none e hD)]
        exact s1 b o e
    · rw [upd_same, List.range_succ, List.map_append, List.map_append]
      have e : decide (V.int (a.fmod ((2 + (i : Int)) * (2 + (i : Int)))) = V.int 0) = decide (a.fmod ((2 + (i : Int)) * (2 + (i : Int))) = 0) := by
        by_cases z : a.fmod ((2 + (i : Int)) * (2 + (i : Int))) = 0
        · rw [z]; rfl
        · rw [decide_eq_false z, decide_eq_false fun y => z (V.int.inj y)]
      rw [e]; rfl
  · exact ⟨D, _, rfl, .of hl, q H' s1⟩

/-! ### the classes Form and Number -/
structure NTxt (K : PySem.W.Frag) (mg : Str → Option Value) (CN CF : Addr) : Prop where
  gN : mg "Number" = some (.ref CN)
  gF : mg "Form" = some (.ref CF)
  cN : SCls K CN
  cF : SCls K CF
  yN : SIsi K CN
  yF : SIsi K CF
  sN_top : ∃ p, Slot1 K CN "own_top" p 3
  sN_part : ∃ p, Slot1 K CN "own_part" p 1
  sN_root : ∃ p, Slot1 K CN "own_root" p 2
  sN_bottom : ∃ p, Slot1 K CN "own_bottom" p 0
  sF_top : ∃ p, Slot1 K CF "own_top" p 3
  sF_part : ∃ p, Slot1 K CF "own_part" p 1
  sF_root : ∃ p, Slot1 K CF "own_root" p 2
  sF_bottom : ∃ p, Slot1 K CF "own_bottom" p 0
  iNN : PySem.W.kitOne K (.ref CN) (.ref CN) = some true
  iFF : PySem.W.kitOne K (.ref CF) (.ref CF) = some true
  iIF : PySem.W.kitOne K (.type "int") (.ref CF) = some false
  iIN : PySem.W.kitOne K (.type "int") (.ref CN) = some false
  iNI : PySem.W.kitOne K (.ref CN) (.type "int") = some false
/-- the slots of a number, of a form -/
def sl4 (n : Nm) : List (Option V) := [some (.int n.b), some (.int n.p), some (.int n.r), some (.int n.t)]
/-- v is an instance of C with these four integers -/
def At4 (C : Addr) (H : Hp) (v : V) (n : Nm) : Prop := ∃ a dx, v = .ref a ∧ Slt H a C dx (sl4 n)
theorem At4.same {C : Addr} {H H' : Hp} {v : V} {n : Nm} (h : At4 C H v n) (s : Same H H') : At4 C H' v n := by
  obtain ⟨a, dx, rfl, h⟩ := h
  refine ⟨a, dx, rfl, ?_⟩
  rcases h with ⟨_, h2⟩ | ⟨h1, h2⟩
  · cases h2
  · exact .inr ⟨s _ _ h1, s _ _ h2⟩
def okRoot (r p : Int) : Prop := (r = 0 ∧ p = 0) ∨ isRootB r = true
/-- what the numbers' own calls take -/
def Arg4 (CF : Addr) (H : Hp) (rest : List V) (n : Nm) : Prop := (∃ v, rest = [v, .int 0, .int 0, .int 1] ∧ At4 CF H v n) ∨ ∃ t p r b, rest = [.int t, .int p, .int r, .int b] ∧ b ≠ 0 ∧ okRoot r p ∧ Bd 9000 b ∧ n = mkNm t p r b
def spFormI (CF : Addr) : Sp := fun vs H Q _ => ∃ (a dx : Addr) (t p r b : Int), vs = [.ref a, .int t, .int p, .int r, .int b] ∧ dx ≠ a ∧ Slt H a CF dx [] ∧ b ≠ 0 ∧ Bd 9000 b ∧ Q .non (slH H a CF dx (sl4 (mkNm t p r b)))
def spFormIn (CF : Addr) : Sp := fun vs H Q _ => ∃ n, Arg4 CF H vs n ∧ ∀ v H', Same H H' → At4 CF H' v n → Q v H'
def spNumI (CN CF : Addr) : Sp := fun vs H Q _ => ∃ (a dx : Addr) (rest : List V) (n : Nm), vs = .ref a :: rest ∧ dx ≠ a ∧ (H a = some (.ins CN dx []) ∧ H dx = some (.own a)) ∧ Arg4 CF H rest n ∧ ∀ H1, Same H H1 → Q .non (slH H1 a CN dx (sl4 n))
section
variable {P : Program} {w : World} {K : PySem.W.Frag} {mg : Str → Option Value} {base : Heap} {f CN CF : Addr} {fd : FuncData}
theorem sc_Form___init__ : FnScope ["self", "top", "part", "root", "bottom", "common", "share"] ["self", "top", "part", "root", "bottom"] (defScope (inClass (topS 19) 1)) := ⟨rfl, rfl, rfl, by decide +kernel, rfl, by decide +kernel, by decide +kernel⟩
theorem ok_form_init (F : Fun K "__init__" "Form.__init__" (inClass (topS 19) 1) f fd) (fr : Free mg) (T : NTxt K mg CN CF) (G_greatest_divisor : GD P w K mg base "greatest_divisor" 2 spGcd) : FnOk P w K mg base CX0 3 f fd ["self", "top", "part", "root", "bottom"] (spFormI CF) := by
  refine F.ok sc_Form___init__ (fun vs H Q E ⟨_, _, _, _, _, _, e, _⟩ => by rw [e]; rfl) (fun cdv A outer s H vs Q E hr h => ⟨_, (pss_cons (ps_set (i := 5) sc_Form___init__.nd rfl (by first | exact Or.inl rfl | exact Or.inr rfl) (pe_c1 G_greatest_divisor (hr.mono (by decide)) (pa_cons (pe_c1 G_greatest_divisor (hr.mono (by decide)) (pa_cons (pe_callB call_abs (by rfl) fr.b_abs (by decide +kernel) (pa_cons (pv 1) pa_nil)) (pa_cons (pe_callB call_abs (by rfl) fr.b_abs (by decide +kernel) (pa_cons (pv 2) pa_nil)) pa_nil))) (pa_cons (pe_callB call_abs (by rfl) fr.b_abs (by decide +kernel) (pa_cons (pv 4) pa_nil)) pa_nil))))
  (pss_cons (ps_set (i := 6) sc_Form___init__.nd rfl (by first | exact Or.inl rfl | exact Or.inr rfl) (pe_ifExp (pt_cmpR op_gt (pv 4) pe_int (nomark _)) (pv 5) (pe_un un_neg (pv 5))))
  (pss_cons (ps_slC T.cF T.sF_top (pv 0) (pe_op op_fdivZ (pv 1) (pv 6)))
  (pss_cons (ps_slC T.cF T.sF_part (pv 0) (pe_op op_fdivZ (pv 2) (pv 6)))
  (pss_cons (ps_slC T.cF T.sF_root (pv 0) (pe_ifExp (pt_cmpR op_eq (pv 2) pe_int (nomark _)) pe_int (pv 3)))
  (pss_one (ps_slC T.cF T.sF_bottom (pv 0) (pe_op op_fdivZ (pv 4) (pv 6))))))))), ?_⟩)
  obtain ⟨a, dx, t, p, r, b, rfl, ne, hs, b0, hb, q⟩ := h
  have key : ∀ sh rr : Int, sh = share t p b → rr = (if p = 0 then 0 else r) → Q .non (slH (slH (slH (slH H a CF dx (putS 3 (.int (t.fdiv sh)) [])) a CF dx (putS 1 (.int (p.fdiv sh)) (putS 3 (.int (t.fdiv sh)) []))) a CF dx
      (putS 2 (.int rr) (putS 1 (.int (p.fdiv sh)) (putS 3 (.int (t.fdiv sh)) [])))) a CF dx (putS 0 (.int (b.fdiv sh)) (putS 2 (.int rr) (putS 1 (.int (p.fdiv sh)) (putS 3 (.int (t.fdiv sh)) []))))) := fun sh rr e1 e2 => by
    rw [slH_twice ne, slH_twice ne, slH_twice ne, e1, e2]; exact q
  have ab : ∀ x : Int, (if x < 0 then -x else x).toNat = x.natAbs := fun x => by split <;> omega
  have nn : ∀ x : Int, 0 ≤ (if x < 0 then -x else x) := fun x => by split <;> omega
  refine ⟨_, rfl, _, rfl, _, rfl, _, rfl, _, _, rfl, nn t, nn p, _, rfl, _, rfl, _, _, rfl, Int.natCast_nonneg _, nn b, ?_⟩
  rw [ab, ab, ab, Int.toNat_natCast]
  have dv : ∀ x sh : Int, sh = share t p b → CDvz x sh := fun x sh e => by rw [e]; exact (share_bd b0 hb).dvz (share_ne b0) (Nat.le_refl _)
  have l1 := fun vs => slH_slt (H := H) (C := CF) (vs := vs) ne
  refine ⟨_, rfl, _, _, rfl, rfl, _, rfl, ite_dec (fun c => ?_) fun c => ?_⟩
  · have e : ((Nat.gcd (Nat.gcd t.natAbs p.natAbs) b.natAbs : Nat) : Int) = share t p b := (if_pos c).symm
    refine ⟨_, rfl, _, rfl, _, rfl, _, _, rfl, rfl, dv _ _ e, _, rfl, a, dx, _, rfl, hs, _, rfl, _, rfl, _, _, rfl, rfl, dv _ _ e, _, rfl, a, dx, _, rfl, slH_slt ne, _, rfl, rfl, _, rfl, ite_dec (fun c2 => ?_) fun c2 => ?_⟩
    · exact ⟨_, rfl, a, dx, _, rfl, slH_slt ne, _, rfl, _, rfl, _, _, rfl, rfl, dv _ _ e, _, rfl, a, dx, _, rfl, slH_slt ne, key _ _ e (if_pos (V.int.inj c2)).symm⟩
    · exact ⟨_, rfl, _, rfl, a, dx, _, rfl, slH_slt ne, _, rfl, _, rfl, _, _, rfl, rfl, dv _ _ e, _, rfl, a, dx, _, rfl, slH_slt ne, key _ _ e (if_neg fun z => c2 (congrArg V.int z)).symm⟩
  · have e : -((Nat.gcd (Nat.gcd t.natAbs p.natAbs) b.natAbs : Nat) : Int) = share t p b := (if_neg c).symm
    refine ⟨_, rfl, _, rfl, _, rfl, _, rfl, _, _, rfl, rfl, dv _ _ e, _, rfl, a, dx, _, rfl, hs, _, rfl, _, rfl, _, _, rfl, rfl, dv _ _ e, _, rfl, a, dx, _, rfl, slH_slt ne, _, rfl, rfl, _, rfl, ite_dec (fun c2 => ?_) fun c2 => ?_⟩
    · exact ⟨_, rfl, a, dx, _, rfl, slH_slt ne, _, rfl, _, rfl, _, _, rfl, rfl, dv _ _ e, _, rfl, a, dx, _, rfl, slH_slt ne, key _ _ e (if_pos (V.int.inj c2)).symm⟩
    · exact ⟨_, rfl, _, rfl, a, dx, _, rfl, slH_slt ne, _, rfl, _, rfl, _, _, rfl, rfl, dv _ _ e, _, rfl, a, dx, _, rfl, slH_slt ne, key _ _ e (if_neg fun z => c2 (congrArg V.int z)).symm⟩

theorem same_made {H : Hp} {x dx C : Addr} {vs : List (Option V)} (nx : H x = none) (nd : H dx = none) : Same H (slH (upd (upd H dx (.own x)) x (.ins C dx [])) x C dx vs) := fun b o e => by
  have h1 : b ≠ x := ne_of_none e nx
  have h2 : b ≠ dx := ne_of_none e nd
  rw [slH_ne h1 h2, upd_ne h1, upd_ne h2]; exact e
theorem same_new {H : Hp} {x dx C : Addr} (nx : H x = none) (nd : H dx = none) : Same H (upd (upd H dx (.own x)) x (.ins C dx [])) := fun b o e => by
  rw [upd_ne (ne_of_none e nx), upd_ne (ne_of_none e nd)]; exact e
theorem form_made {H : Hp} {Q : VK} {t p r b : Int} (b0 : b ≠ 0) (hb : Bd 9000 b) (q : ∀ v H', Same H H' → At4 CF H' v (mkNm t p r b) → Q v H') :
    ∀ x dx, H x = none → H dx = none → dx ≠ x → spFormI CF (.ref x :: [.int t, .int p, .int r, .int b]) (upd (upd H dx (.own x)) x (.ins CF dx [])) (fun v H2 => v = .non ∧ Q (.ref x) H2) E0 := fun x dx nx nd ne =>
  ⟨x, dx, t, p, r, b, rfl, ne, .inl ⟨upd_same, rfl⟩, b0, hb, rfl, q _ _ (same_made nx nd) ⟨x, dx, rfl, slH_slt ne⟩⟩
theorem Arg4.same {H H' : Hp} {vs : List V} {n : Nm} (h : Arg4 CF H vs n) (s : Same H H') : Arg4 CF H' vs n := h.imp (fun ⟨v, e, h⟩ => ⟨v, e, h.same s⟩) id
theorem slH_same {H H1 : Hp} {x dx C C' : Addr} {vs : List (Option V)} (nx : H x = none) (nd : H dx = none) (s : Same (upd (upd H dx (.own x)) x (.ins C dx [])) H1) : Same H (slH H1 x C' dx vs) := fun b o e => by
  have h1 : b ≠ x := ne_of_none e nx
  have h2 : b ≠ dx := ne_of_none e nd
  rw [slH_ne h1 h2]
  exact s _ _ (by rw [upd_ne h1, upd_ne h2]; exact e)
theorem num_made {H : Hp} {Q : VK} {vs : List V} {n : Nm} (h : Arg4 CF H vs n) (q : ∀ v H', Same H H' → At4 CN H' v n → Q v H') :
    ∀ x dx, H x = none → H dx = none → dx ≠ x → spNumI CN CF (.ref x :: vs) (upd (upd H dx (.own x)) x (.ins CN dx [])) (fun v H2 => v = .non ∧ Q (.ref x) H2) E0 := fun x dx nx nd ne =>
  ⟨x, dx, vs, n, rfl, ne, ⟨upd_same, by rw [upd_ne ne, upd_same]⟩, h.same (same_new nx nd), fun H1 s => ⟨rfl, q _ _ (slH_same nx nd s) ⟨x, dx, rfl, slH_slt ne⟩⟩⟩
theorem At4.ty {H : Hp} {v : V} {n : Nm} {C : Addr} (h : At4 C H v n) (c : SCls K C) (i : SIsi K C) : TyY K H v (.ref C) := by
  obtain ⟨a, dx, rfl, h⟩ := h
  exact .slt h c i
theorem ty_int (H : Hp) (i : Int) : TyY K H (.int i) (.type "int") := .x (.base (.int i))
theorem kit_ii : PySem.W.kitOne K (.type "int") (.type "int") = some true := kit_ty (by decide +kernel)
theorem sc_form_in : FnScope ["top", "part", "root", "bottom"] ["top", "part", "root", "bottom"] (defScope (topS 20)) := ⟨rfl, rfl, rfl, by decide +kernel, rfl, by decide +kernel, by decide +kernel⟩
theorem ok_form_in (F : Fun K "form_in" "form_in" (topS 20) f fd) (fr : Free mg) (T : NTxt K mg CN CF) (G_is_whole : GD P w K mg base "is_whole" 2 (spIsWhole K)) (G_is_root : GD P w K mg base "is_root" 3 spIsRoot)
    (G_Form : GM P w K mg base "Form" CF 3 [] (spFormI CF)) : FnOk P w K mg base CX0 5 f fd ["top", "part", "root", "bottom"] (spFormIn CF) := by
  refine F.ok sc_form_in (fun vs H Q E ⟨_, e, _⟩ => by rcases e with ⟨_, e, _⟩ | ⟨_, _, _, _, e, _⟩ <;> (rw [e]; rfl)) (fun cdv A outer s H vs Q E hr h => ⟨_, (pss_cons (ps_if (pt_val (pe_callB call_isiU (by rfl) fr.b_isinstance (by decide +kernel) (pa_cons (pv 0) (pa_cons (pe_glob (v := .ref CF) rfl T.gF rfl) pa_nil)))) (pss_one (ps_ret (pv 0))) pss_nil)
  (pss_cons (ps_if (PW.pt (pw_or (pt_not (pt_val (pe_c1 G_is_whole (hr.mono (by decide)) (pa_cons (pv 0) pa_nil)))) (pw_or (pt_not (pt_val (pe_c1 G_is_whole (hr.mono (by decide)) (pa_cons (pv 1) pa_nil)))) (pw_or (pt_not (pt_val (pe_c1 G_is_whole (hr.mono (by decide)) (pa_cons (pv 3) pa_nil)))) (pw_or1 (pt_cmpR op_eq (pv 3) pe_int (nomark _))))))) (pss_one ps_never) pss_nil)
  (pss_cons (ps_if (PW.pt (pw_or (pt_not (pt_val (pe_c1 G_is_whole (hr.mono (by decide)) (pa_cons (pv 2) pa_nil)))) (pw_or (PW.pt (pw_and (pt_cmpR op_ne (pv 2) pe_int (nomark _)) (pw_and1 (pt_not (pt_val (pe_c1 G_is_root (hr.mono (by decide)) (pa_cons (pv 2) pa_nil))))))) (pw_or1 (PW.pt (pw_and (pt_cmpR op_eq (pv 2) pe_int (nomark _)) (pw_and1 (pt_cmpR op_ne (pv 1) pe_int (nomark _))))))))) (pss_one ps_never) pss_nil)
  (pss_one (ps_ret (pe_m1 G_Form (hr.mono (by decide)) (pa_cons (pv 0) (pa_cons (pv 1) (pa_cons (pv 2) (pa_cons (pv 3) pa_nil)))))))))), ?_⟩)
  obtain ⟨n, h, q⟩ := h
  rcases h with ⟨v, rfl, h⟩ | ⟨t, p, r, b, rfl, b0, hrt, hb, rfl⟩
  · exact ⟨v, rfl, v, .ref CF, _, _, true, rfl, .own CF, h.ty T.cF T.yF, T.iFF, true, rfl, v, rfl, q v H (Same.refl H) h⟩
  have ex : ∀ i : Int, (true = true → ∃ j, V.int i = V.int j) := fun i _ => ⟨i, rfl⟩
  refine ⟨_, rfl, _, .ref CF, _, _, false, rfl, .own CF, ty_int H t, T.iIF, false, rfl, _, rfl, _, _, true, rfl, ty_int H t, kit_ii, ex t, true, rfl, _, rfl, _, _, true, rfl, ty_int H p, kit_ii, ex p, true, rfl, _, rfl, _, _, true, rfl, ty_int H b, kit_ii, ex b, true, rfl,
    _, rfl, rfl, _, rfl, ite_dec (fun c => absurd (V.int.inj c) b0) fun _ => ?_⟩
  refine ⟨_, rfl, _, _, true, rfl, ty_int H r, kit_ii, ex r, true, rfl, _, rfl, rfl, _, rfl, ?_⟩
  have fin : ∀ H1, Same H H1 → ∀ x dx, H1 x = none → H1 dx = none → dx ≠ x → spFormI CF (.ref x :: [.int t, .int p, .int r, .int b]) (upd (upd H1 dx (.own x)) x (.ins CF dx [])) (fun v H2 => v = .non ∧ Q (.ref x) H2) E0 :=
    fun H1 s1 => form_made b0 hb fun v H' s ha => q v H' (s1.trans s) ha
  rcases hrt with ⟨rfl, rfl⟩ | hrt
  · exact ⟨_, rfl, rfl, _, rfl, _, rfl, rfl, _, rfl, _, rfl, _, rfl, _, rfl, _, rfl, fin H (Same.refl H)⟩
  · have r0 : r ≠ 0 := fun e => by rw [e] at hrt; revert hrt; decide
    refine ite_ndec (fun c => ?_) fun c => absurd (V.int.inj c) r0
    refine ⟨_, rfl, r, rfl, fun H1 s1 => ⟨isRootB r, rfl, ?_⟩⟩
    rw [hrt]
    exact ⟨_, rfl, rfl, _, rfl, ite_dec (fun c => absurd (V.int.inj c) r0) fun _ => ⟨_, rfl, _, rfl, _, rfl, _, rfl, fin H1 s1⟩⟩
theorem sc_Number___init__ : FnScope ["self", "top", "part", "root", "bottom", "form"] ["self", "top", "part", "root", "bottom"] (defScope (inClass (topS 21) 1)) := ⟨rfl, rfl, rfl, by decide +kernel, rfl, by decide +kernel, by decide +kernel⟩
theorem ok_num_init {dvs : List V} {kws : List (Str × V)} (F : FunD K "__init__" "Number.__init__" (defArgs (inClass (topS 21) 1)) (defBody (inClass (topS 21) 1)) (defScope (inClass (topS 21) 1)) dvs kws f fd) (T : NTxt K mg CN CF) (G_form_in : GD P w K mg base "form_in" 5 (spFormIn CF)) :
    FnOk P w K mg base CX0 6 f fd ["self", "top", "part", "root", "bottom"] (spNumI CN CF) := by
  refine F.ok sc_Number___init__ (fun vs H Q E ⟨_, _, rest, n, e, _, _, h, _⟩ => by rw [e]; rcases h with ⟨_, e, _⟩ | ⟨_, _, _, _, e, _⟩ <;> (rw [e]; rfl)) (fun cdv A outer s H vs Q E hr h => ⟨_, ((pss_cons (ps_set (i := 5) sc_Number___init__.nd rfl (by first | exact Or.inl rfl | exact Or.inr rfl) (pe_c1 G_form_in (hr.mono (by decide)) (pa_cons (pv 1) (pa_cons (pv 2) (pa_cons (pv 3) (pa_cons (pv 4) pa_nil))))))
  (pss_cons (ps_slC T.cN T.sN_top (pv 0) (pe_slC T.cF T.sF_top (pv 5)))
  (pss_cons (ps_slC T.cN T.sN_part (pv 0) (pe_slC T.cF T.sF_part (pv 5)))
  (pss_cons (ps_slC T.cN T.sN_root (pv 0) (pe_slC T.cF T.sF_root (pv 5)))
  (pss_one (ps_slC T.cN T.sN_bottom (pv 0) (pe_slC T.cF T.sF_bottom (pv 5)))))))) : PSs (cxOf CX0 P w K mg base ["self", "top", "part", "root", "bottom", "form"] _ _ f cdv A outer s H E).nox _ _).nox, ?_⟩)
  obtain ⟨a, dx, rest, n, rfl, ne, hs, ha, q⟩ := h
  have main : ∀ (σ : L2.St) v H1, Same H H1 → At4 CF H1 v n → σ[0]? = some (some (.ref a)) → σ[5]? = some (some v) →
      tSeq (sSlC CN 3 (tVar 0) (tSlC CF 3 (tVar 5))) (tSeq (sSlC CN 1 (tVar 0) (tSlC CF 1 (tVar 5))) (tSeq (sSlC CN 2 (tVar 0) (tSlC CF 2 (tVar 5))) (sSlC CN 0 (tVar 0) (tSlC CF 0 (tVar 5))))) { nx := fun _ H' => Q .non H', rt := Q } σ H1 := by
    intro σ v H1 s1 h e0 e5
    obtain ⟨b, dy, rfl, hb⟩ := h
    have ka := s1 _ _ hs.1
    have kd := s1 _ _ hs.2
    have hs1 : Slt H1 a CN dx [] := .inl ⟨ka, rfl⟩
    obtain ⟨b1, b2⟩ : H1 b = some (SlO b CF dy (sl4 n)) ∧ H1 dy = some (.xd []) := by
      rcases hb with ⟨_, h2⟩ | h
      · cases h2
      · exact h
    have n1 : b ≠ a := fun z => by rw [z, ka] at b1; unfold SlO at b1; cases b1
    have n2 : b ≠ dx := fun z => by rw [z, kd] at b1; unfold SlO at b1; cases b1
    have n3 : dy ≠ a := fun z => by rw [z, ka] at b2; cases b2
    have n4 : dy ≠ dx := fun z => by rw [z, kd] at b2; cases b2
    have kp : ∀ vs, Slt (slH H1 a CN dx vs) b CF dy (sl4 n) := fun vs => .inr ⟨by rw [slH_ne n1 n2]; exact b1, by rw [slH_ne n3 n4]; exact b2⟩
    have q := q H1 s1
    refine ⟨_, e5, b, dy, _, _, rfl, hb, rfl, _, e0, a, dx, _, rfl, hs1, _, e5, b, dy, _, _, rfl, kp _, rfl, _, e0, a, dx, _, rfl, slH_slt ne, ?_⟩
    rw [slH_twice ne]
    refine ⟨_, e5, b, dy, _, _, rfl, kp _, rfl, _, e0, a, dx, _, rfl, slH_slt ne, ?_⟩
    rw [slH_twice ne]
    refine ⟨_, e5, b, dy, _, _, rfl, kp _, rfl, _, e0, a, dx, _, rfl, slH_slt ne, ?_⟩
    rw [slH_twice ne]
    exact q
  have pre : ∀ v H1, Same H H1 → At4 CF H1 v n → _ := fun v H1 s1 h => main ((start ["self", "top", "part", "root", "bottom", "form"] (.ref a :: rest)).set 5 (some v)) v H1 s1 h
  rcases id ha with ⟨v, rfl, h⟩ | ⟨t, p, r, b, rfl, b0, hrt, hb, rfl⟩
  · exact ⟨_, rfl, _, rfl, _, rfl, _, rfl, n, ha, fun v H' s1 h1 => pre v H' s1 h1 rfl rfl⟩
  · exact ⟨_, rfl, _, rfl, _, rfl, _, rfl, _, ha, fun v H' s1 h1 => pre v H' s1 h1 rfl rfl⟩
end
end
/-! ### what is done with numbers -/
def NI (CN : Addr) (H : Hp) (y : V) (n : Nm) : Prop := At4 CN H y n ∨ ∃ i, y = .int i ∧ n = mkNm i 0 0 1
theorem mk_int_bd (i : Int) : mkNm i 0 0 1 = ⟨i, 0, 0, 1⟩ := by
  have e : share i 0 1 = 1 := by unfold share gcd3; rw [if_pos (by decide)]; simp
  unfold mkNm; rw [e]; simp
def spLike (CN : Addr) : Sp := fun vs H Q _ => ∃ x n, vs = [x] ∧ NI CN H x n ∧ Q (.bl true) H
def spNumOf (CN : Addr) : Sp := fun vs H Q _ => ∃ x n, vs = [x] ∧ NI CN H x n ∧ ∀ v H', Same H H' → At4 CN H' v n → Q v H'
def spCommon (CN : Addr) : Sp := fun vs H Q _ => ∃ x y a b, vs = [x, y] ∧ At4 CN H x a ∧ At4 CN H y b ∧ Cm a b ∧ Q (.int (cRoot a b)) H
/-- a number by a number or an integer -/
def spBin (CN : Addr) (g : Nm → Nm → Nm) (C : Nm → Nm → Prop) : Sp := fun vs H Q _ => ∃ x y a b, vs = [x, y] ∧ At4 CN H x a ∧ NI CN H y b ∧ Cm a b ∧ Gd 1000 a ∧ Gd 1000 b ∧ C a b ∧ ∀ v H', Same H H' → At4 CN H' v (g a b) → Q v H'
def cmpN (a b : Nm) : Int := sgnSum (a.t * b.b - b.t * a.b) (a.p * b.b - b.p * a.b) (cRoot a b)
def spCmp (CN : Addr) : Sp := fun vs H Q _ => ∃ x y a b, vs = [x, y] ∧ At4 CN H x a ∧ NI CN H y b ∧ Cm a b ∧ Gd 1000 a ∧ Gd 1000 b ∧ ∀ H', Same H H' → Q (.int (cmpN a b)) H'
def spUn (CN : Addr) (g : Nm → Nm) : Sp := fun vs H Q _ => ∃ x a, vs = [x] ∧ At4 CN H x a ∧ Gd 1000 a ∧ ∀ v H', Same H H' → At4 CN H' v (g a) → Q v H'
def spInt (CN : Addr) (g : Nm → Int) : Sp := fun vs H Q _ => ∃ x a, vs = [x] ∧ At4 CN H x a ∧ Gd 3800 a ∧ Q (.int (g a)) H
def spInt0 (CN : Addr) (g : Nm → Int) : Sp := fun vs H Q _ => ∃ x a, vs = [x] ∧ At4 CN H x a ∧ Q (.int (g a)) H
def spEq (K : PySem.W.Frag) (CN : Addr) : Sp := fun vs H Q _ => ∃ x y a, vs = [x, y] ∧ At4 CN H x a ∧ ((∃ b, At4 CN H y b ∧ Q (.bl (decide (a = b))) H) ∨ ∃ t, TyY K H y t ∧ PySem.W.kitOne K t (.ref CN) = some false ∧ Q (.bl false) H)
section
variable {P : Program} {w : World} {K : PySem.W.Frag} {mg : Str → Option Value} {base : Heap} {f CN CF : Addr} {fd : FuncData}
theorem sc_is_like_number : FnScope ["value"] ["value"] (defScope (topS 22)) := ⟨rfl, rfl, rfl, by decide +kernel, rfl, by decide +kernel, by decide +kernel⟩
theorem ok_is_like (F : Fun K "is_like_number" "is_like_number" (topS 22) f fd) (fr : Free mg) (T : NTxt K mg CN CF) (G_is_whole : GD P w K mg base "is_whole" 2 (spIsWhole K)) : FnOk P w K mg base CX0 3 f fd ["value"] (spLike CN) := by
  refine F.ok sc_is_like_number (fun vs H Q E ⟨_, _, e, _⟩ => by rw [e]; rfl) (fun cdv A outer s H vs Q E hr h => ⟨_, (pss_one (ps_ret (pe_or (pe_callB call_isiU (by rfl) fr.b_isinstance (by decide +kernel) (pa_cons (pv 0) (pa_cons (pe_glob (v := .ref CN) rfl T.gN rfl) pa_nil))) (pe_one (pe_c1 G_is_whole (hr.mono (by decide)) (pa_cons (pv 0) pa_nil)))))), ?_⟩)
  obtain ⟨x, n, rfl, h | ⟨i, rfl, _⟩, q⟩ := h
  · exact ⟨_, rfl, _, .ref CN, _, _, true, rfl, .own CN, h.ty T.cN T.yN, T.iNN, true, rfl, q⟩
  · exact ⟨_, rfl, _, .ref CN, _, _, false, rfl, .own CN, ty_int H i, T.iIN, false, rfl, _, rfl, _, _, true, rfl, ty_int H i, kit_ii, fun _ => ⟨i, rfl⟩, q⟩
theorem sc_number_of : FnScope ["value"] ["value"] (defScope (topS 23)) := ⟨rfl, rfl, rfl, by decide +kernel, rfl, by decide +kernel, by decide +kernel⟩
theorem ok_number_of (F : Fun K "number_of" "number_of" (topS 23) f fd) (fr : Free mg) (T : NTxt K mg CN CF) (G_Form : GM P w K mg base "Form" CF 3 [] (spFormI CF)) (G_Number : GM P w K mg base "Number" CN 6 [.int 0, .int 0, .int 1] (spNumI CN CF)) : FnOk P w K mg base CX0 8 f fd ["value"] (spNumOf CN) := by
  refine F.ok sc_number_of (fun vs H Q E ⟨_, _, e, _⟩ => by rw [e]; rfl) (fun cdv A outer s H vs Q E hr h => ⟨_, (pss_one (ps_ret (pe_ifExp (pt_val (pe_callB call_isiU (by rfl) fr.b_isinstance (by decide +kernel) (pa_cons (pv 0) (pa_cons (pe_glob (v := .ref CN) rfl T.gN rfl) pa_nil)))) (pv 0) (pe_m1 G_Number (hr.mono (by decide)) (pa_cons (pe_m1 G_Form (hr.mono (by decide)) (pa_cons (pv 0) (pa_cons pe_int (pa_cons pe_int (pa_cons pe_int pa_nil))))) pa_nil))))), ?_⟩)
  obtain ⟨x, n, rfl, h | ⟨i, rfl, rfl⟩, q⟩ := h
  · exact ⟨_, rfl, _, .ref CN, _, _, true, rfl, .own CN, h.ty T.cN T.yN, T.iNN, true, rfl, _, rfl, q _ _ (Same.refl H) h⟩
  · exact ⟨_, rfl, _, .ref CN, _, _, false, rfl, .own CN, ty_int H i, T.iIN, false, rfl, _, rfl, form_made (by decide) (bd_sm (by decide) (by decide)) fun v H1 s1 hf => num_made (.inl ⟨v, rfl, hf⟩) fun u H2 s2 hn => q u H2 (s1.trans s2) hn⟩
theorem sc_required : FnScope ["value"] ["value"] (defScope (topS 24)) := ⟨rfl, rfl, rfl, by decide +kernel, rfl, by decide +kernel, by decide +kernel⟩
theorem ok_required (F : Fun K "required" "required" (topS 24) f fd) (G_is_like_number : GD P w K mg base "is_like_number" 3 (spLike CN)) (G_number_of : GD P w K mg base "number_of" 8 (spNumOf CN)) : FnOk P w K mg base CX0 9 f fd ["value"] (spNumOf CN) := by
  refine F.ok sc_required (fun vs H Q E ⟨_, _, e, _⟩ => by rw [e]; rfl) (fun cdv A outer s H vs Q E hr h => ⟨_, (pss_cons (ps_if (pt_not (pt_val (pe_c1 G_is_like_number (hr.mono (by decide)) (pa_cons (pv 0) pa_nil)))) (pss_one ps_never) pss_nil)
  (pss_one (ps_ret (pe_c1 G_number_of (hr.mono (by decide)) (pa_cons (pv 0) pa_nil))))), ?_⟩)
  obtain ⟨x, n, rfl, h, q⟩ := h
  exact ⟨_, rfl, _, n, rfl, h, true, rfl, _, rfl, _, n, rfl, h, q⟩
theorem sc_common_root : FnScope ["one", "other"] ["one", "other"] (defScope (topS 25)) := ⟨rfl, rfl, rfl, by decide +kernel, rfl, by decide +kernel, by decide +kernel⟩
theorem ok_common_root (F : Fun K "common_root" "common_root" (topS 25) f fd) (T : NTxt K mg CN CF) : FnOk P w K mg base CX0 2 f fd ["one", "other"] (spCommon CN) := by
  refine F.ok sc_common_root (fun vs H Q E ⟨_, _, _, _, e, _⟩ => by rw [e]; rfl) (fun cdv A outer s H vs Q E hr h => ⟨_, (pss_cons (ps_if (PW.pt (pw_and (pt_cmpR op_ne (pe_slC T.cN T.sN_root (pv 0)) pe_int (nomark _)) (pw_and (pt_cmpR op_ne (pe_slC T.cN T.sN_root (pv 1)) pe_int (nomark _)) (pw_and1 (pt_cmpR op_ne (pe_slC T.cN T.sN_root (pv 0)) (pe_slC T.cN T.sN_root (pv 1)) (nomark _)))))) (pss_one ps_never) pss_nil)
  (pss_one (ps_ret (pe_ifExp (pt_cmpR op_ne (pe_slC T.cN T.sN_root (pv 0)) pe_int (nomark _)) (pe_slC T.cN T.sN_root (pv 0)) (pe_slC T.cN T.sN_root (pv 1)))))), ?_⟩)
  obtain ⟨x, y, a, b, rfl, ⟨x, dx, rfl, hx⟩, ⟨y, dy, rfl, hy⟩, cm, q⟩ := h
  unfold cRoot at q
  have fin : (a.r = 0 ∨ b.r = 0 ∨ a.r = b.r) → tRet (tIf (tTest (tOp rNe (tSlC CN 2 (tVar 0)) (tC (.int 0)))) (tSlC CN 2 (tVar 0)) (tSlC CN 2 (tVar 1))) { nx := fun _ H' => Q .non H', rt := Q } (start ["one", "other"] [.ref x, .ref y]) H := fun _ => by
    refine ⟨_, rfl, x, dx, _, _, rfl, hx, rfl, rfl, _, rfl, ite_ndec (fun c => ?_) fun c => ?_⟩
    · rw [if_neg fun e => c (congrArg V.int e)] at q
      exact ⟨_, rfl, x, dx, _, _, rfl, hx, rfl, q⟩
    · rw [if_pos (V.int.inj c)] at q
      exact ⟨_, rfl, y, dy, _, _, rfl, hy, rfl, q⟩
  refine ⟨_, rfl, x, dx, _, _, rfl, hx, rfl, rfl, _, rfl, ite_ndec (fun c => ?_) fun c => fin cm⟩
  refine ⟨_, rfl, y, dy, _, _, rfl, hy, rfl, rfl, _, rfl, ite_ndec (fun c2 => ?_) fun c2 => fin cm⟩
  refine ⟨_, rfl, x, dx, _, _, rfl, hx, rfl, _, rfl, y, dy, _, _, rfl, hy, rfl, rfl, _, rfl, ?_⟩
  have e : a.r = b.r := by
    rcases cm with e | e | e
    · exact absurd (congrArg V.int e) c
    · exact absurd (congrArg V.int e) c2
    · exact e
  rw [e, decide_eq_true rfl]
  exact fin cm
theorem sc_Number___add__ : FnScope ["self", "other", "more", "root", "top", "part"] ["self", "other"] (defScope (inClass (topS 21) 13)) := ⟨rfl, rfl, rfl, by decide +kernel, rfl, by decide +kernel, by decide +kernel⟩
theorem ok_add (F : Fun K "__add__" "Number.__add__" (inClass (topS 21) 13) f fd) (fr : Free mg) (T : NTxt K mg CN CF) (G_is_like_number : GD P w K mg base "is_like_number" 3 (spLike CN)) (G_number_of : GD P w K mg base "number_of" 8 (spNumOf CN))
    (G_common_root : GD P w K mg base "common_root" 2 (spCommon CN)) (G_Form : GM P w K mg base "Form" CF 3 [] (spFormI CF)) (G_Number : GM P w K mg base "Number" CN 6 [.int 0, .int 0, .int 1] (spNumI CN CF)) :
    FnOk P w K mg base CX0 9 f fd ["self", "other"] (spBin CN addN fun _ _ => True) := by
  refine F.ok sc_Number___add__ (fun vs H Q E ⟨_, _, _, _, e, _⟩ => by rw [e]; rfl) (fun cdv A outer s H vs Q E hr h => ⟨_, (pss_cons (ps_if (pt_not (pt_val (pe_c1 G_is_like_number (hr.mono (by decide)) (pa_cons (pv 1) pa_nil)))) (pss_one ps_never) pss_nil)
  (pss_cons (ps_set (i := 2) sc_Number___add__.nd rfl (by first | exact Or.inl rfl | exact Or.inr rfl) (pe_c1 G_number_of (hr.mono (by decide)) (pa_cons (pv 1) pa_nil)))
  (pss_cons (ps_set (i := 3) sc_Number___add__.nd rfl (by first | exact Or.inl rfl | exact Or.inr rfl) (pe_c1 G_common_root (hr.mono (by decide)) (pa_cons (pv 0) (pa_cons (pv 2) pa_nil))))
  (pss_cons (ps_set (i := 4) sc_Number___add__.nd rfl (by first | exact Or.inl rfl | exact Or.inr rfl) (pe_op op_add (pe_op op_mulX (pe_slC T.cN T.sN_top (pv 0)) (pe_slC T.cN T.sN_bottom (pv 2))) (pe_op op_mulX (pe_slC T.cN T.sN_top (pv 2)) (pe_slC T.cN T.sN_bottom (pv 0)))))
  (pss_cons (ps_set (i := 5) sc_Number___add__.nd rfl (by first | exact Or.inl rfl | exact Or.inr rfl) (pe_op op_add (pe_op op_mulX (pe_slC T.cN T.sN_part (pv 0)) (pe_slC T.cN T.sN_bottom (pv 2))) (pe_op op_mulX (pe_slC T.cN T.sN_part (pv 2)) (pe_slC T.cN T.sN_bottom (pv 0)))))
  (pss_one (ps_ret (pe_m1 G_Number (hr.mono (by decide)) (pa_cons (pe_m1 G_Form (hr.mono (by decide)) (pa_cons (pv 4) (pa_cons (pv 5) (pa_cons (pv 3) (pa_cons (pe_op op_mulX (pe_slC T.cN T.sN_bottom (pv 0)) (pe_slC T.cN T.sN_bottom (pv 2))) pa_nil))))) pa_nil))))))))), ?_⟩)
  obtain ⟨x, y, a, b, rfl, ⟨a_self, d_self, rfl, h_self⟩, hy, cm, g_self, g_more, _, q⟩ := h
  refine ⟨_, rfl, y, b, rfl, hy, true, rfl, _, rfl, y, b, rfl, hy, fun v H1 s1 hv => ?_⟩
  have hx1 : At4 CN H1 (.ref a_self) a := At4.same ⟨a_self, d_self, rfl, h_self⟩ s1
  have cr := cRoot_bd g_self g_more
  obtain ⟨a_more, d_more, rfl, h_more⟩ := id hv
  refine ⟨_, rfl, _, rfl, .ref a_self, _, a, b, rfl, hx1, hv, cm, ?_⟩
  obtain ⟨_, d_self, e, h_self⟩ := hx1
  cases e
  have bb : a.b * b.b ≠ 0 := Int.mul_ne_zero g_self.b0 g_more.b0
  exact ⟨_, rfl, a_self, d_self, _, _, rfl, h_self, rfl, _, rfl, a_more, d_more, _, _, rfl, h_more, rfl, _, _, rfl, rfl, Bd.mulx g_self.t g_more.b (by decide), _, rfl, a_more, d_more, _, _, rfl, h_more, rfl, _, rfl, a_self, d_self, _, _, rfl, h_self, rfl, _, _, rfl, rfl, Bd.mulx g_more.t g_self.b (by decide), _, _, rfl, rfl, _, rfl, a_self, d_self, _, _, rfl, h_self, rfl, _, rfl, a_more, d_more, _, _, rfl, h_more, rfl, _, _, rfl, rfl, Bd.mulx g_self.p g_more.b (by decide), _, rfl, a_more, d_more, _, _, rfl, h_more, rfl, _, rfl, a_self, d_self, _, _, rfl, h_self, rfl, _, _, rfl, rfl, Bd.mulx g_more.p g_self.b (by decide), _, _, rfl, rfl, _, rfl, _, rfl, _, rfl, _, rfl, a_self, d_self, _, _, rfl, h_self, rfl, _, rfl, a_more, d_more, _, _, rfl, h_more, rfl, _, _, rfl, rfl, Bd.mulx g_self.b g_more.b (by decide),
    form_made bb (Bd.mono (Bd.mul g_self.b g_more.b) (by decide)) fun v H2 s2 hf => num_made (.inl ⟨v, rfl, hf⟩) fun u H3 s3 hn => q u H3 ((s1.trans s2).trans s3) hn⟩
theorem sc_Number___sub__ : FnScope ["self", "other", "less", "root", "top", "part"] ["self", "other"] (defScope (inClass (topS 21) 14)) := ⟨rfl, rfl, rfl, by decide +kernel, rfl, by decide +kernel, by decide +kernel⟩
theorem ok_sub (F : Fun K "__sub__" "Number.__sub__" (inClass (topS 21) 14) f fd) (fr : Free mg) (T : NTxt K mg CN CF) (G_is_like_number : GD P w K mg base "is_like_number" 3 (spLike CN)) (G_number_of : GD P w K mg base "number_of" 8 (spNumOf CN))
    (G_common_root : GD P w K mg base "common_root" 2 (spCommon CN)) (G_Form : GM P w K mg base "Form" CF 3 [] (spFormI CF)) (G_Number : GM P w K mg base "Number" CN 6 [.int 0, .int 0, .int 1] (spNumI CN CF)) :
    FnOk P w K mg base CX0 9 f fd ["self", "other"] (spBin CN subN fun _ _ => True) := by
  refine F.ok sc_Number___sub__ (fun vs H Q E ⟨_, _, _, _, e, _⟩ => by rw [e]; rfl) (fun cdv A outer s H vs Q E hr h => ⟨_, (pss_cons (ps_if (pt_not (pt_val (pe_c1 G_is_like_number (hr.mono (by decide)) (pa_cons (pv 1) pa_nil)))) (pss_one ps_never) pss_nil)
  (pss_cons (ps_set (i := 2) sc_Number___sub__.nd rfl (by first | exact Or.inl rfl | exact Or.inr rfl) (pe_c1 G_number_of (hr.mono (by decide)) (pa_cons (pv 1) pa_nil)))
  (pss_cons (ps_set (i := 3) sc_Number___sub__.nd rfl (by first | exact Or.inl rfl | exact Or.inr rfl) (pe_c1 G_common_root (hr.mono (by decide)) (pa_cons (pv 0) (pa_cons (pv 2) pa_nil))))
  (pss_cons (ps_set (i := 4) sc_Number___sub__.nd rfl (by first | exact Or.inl rfl | exact Or.inr rfl) (pe_op op_sub (pe_op op_mulX (pe_slC T.cN T.sN_top (pv 0)) (pe_slC T.cN T.sN_bottom (pv 2))) (pe_op op_mulX (pe_slC T.cN T.sN_top (pv 2)) (pe_slC T.cN T.sN_bottom (pv 0)))))
  (pss_cons (ps_set (i := 5) sc_Number___sub__.nd rfl (by first | exact Or.inl rfl | exact Or.inr rfl) (pe_op op_sub (pe_op op_mulX (pe_slC T.cN T.sN_part (pv 0)) (pe_slC T.cN T.sN_bottom (pv 2))) (pe_op op_mulX (pe_slC T.cN T.sN_part (pv 2)) (pe_slC T.cN T.sN_bottom (pv 0)))))
  (pss_one (ps_ret (pe_m1 G_Number (hr.mono (by decide)) (pa_cons (pe_m1 G_Form (hr.mono (by decide)) (pa_cons (pv 4) (pa_cons (pv 5) (pa_cons (pv 3) (pa_cons (pe_op op_mulX (pe_slC T.cN T.sN_bottom (pv 0)) (pe_slC T.cN T.sN_bottom (pv 2))) pa_nil))))) pa_nil))))))))), ?_⟩)
  obtain ⟨x, y, a, b, rfl, ⟨a_self, d_self, rfl, h_self⟩, hy, cm, g_self, g_less, _, q⟩ := h
  refine ⟨_, rfl, y, b, rfl, hy, true, rfl, _, rfl, y, b, rfl, hy, fun v H1 s1 hv => ?_⟩
  have hx1 : At4 CN H1 (.ref a_self) a := At4.same ⟨a_self, d_self, rfl, h_self⟩ s1
  have cr := cRoot_bd g_self g_less
  obtain ⟨a_less, d_less, rfl, h_less⟩ := id hv
  refine ⟨_, rfl, _, rfl, .ref a_self, _, a, b, rfl, hx1, hv, cm, ?_⟩
  obtain ⟨_, d_self, e, h_self⟩ := hx1
  cases e
  have bb : a.b * b.b ≠ 0 := Int.mul_ne_zero g_self.b0 g_less.b0
  exact ⟨_, rfl, a_self, d_self, _, _, rfl, h_self, rfl, _, rfl, a_less, d_less, _, _, rfl, h_less, rfl, _, _, rfl, rfl, Bd.mulx g_self.t g_less.b (by decide), _, rfl, a_less, d_less, _, _, rfl, h_less, rfl, _, rfl, a_self, d_self, _, _, rfl, h_self, rfl, _, _, rfl, rfl, Bd.mulx g_less.t g_self.b (by decide), _, _, rfl, rfl, _, rfl, a_self, d_self, _, _, rfl, h_self, rfl, _, rfl, a_less, d_less, _, _, rfl, h_less, rfl, _, _, rfl, rfl, Bd.mulx g_self.p g_less.b (by decide), _, rfl, a_less, d_less, _, _, rfl, h_less, rfl, _, rfl, a_self, d_self, _, _, rfl, h_self, rfl, _, _, rfl, rfl, Bd.mulx g_less.p g_self.b (by decide), _, _, rfl, rfl, _, rfl, _, rfl, _, rfl, _, rfl, a_self, d_self, _, _, rfl, h_self, rfl, _, rfl, a_less, d_less, _, _, rfl, h_less, rfl, _, _, rfl, rfl, Bd.mulx g_self.b g_less.b (by decide),
    form_made bb (Bd.mono (Bd.mul g_self.b g_less.b) (by decide)) fun v H2 s2 hf => num_made (.inl ⟨v, rfl, hf⟩) fun u H3 s3 hn => q u H3 ((s1.trans s2).trans s3) hn⟩
theorem sc_Number___mul__ : FnScope ["self", "other", "more", "root", "top", "part"] ["self", "other"] (defScope (inClass (topS 21) 15)) := ⟨rfl, rfl, rfl, by decide +kernel, rfl, by decide +kernel, by decide +kernel⟩
theorem ok_mul (F : Fun K "__mul__" "Number.__mul__" (inClass (topS 21) 15) f fd) (fr : Free mg) (T : NTxt K mg CN CF) (G_is_like_number : GD P w K mg base "is_like_number" 3 (spLike CN)) (G_number_of : GD P w K mg base "number_of" 8 (spNumOf CN))
    (G_common_root : GD P w K mg base "common_root" 2 (spCommon CN)) (G_Form : GM P w K mg base "Form" CF 3 [] (spFormI CF)) (G_Number : GM P w K mg base "Number" CN 6 [.int 0, .int 0, .int 1] (spNumI CN CF)) :
    FnOk P w K mg base CX0 9 f fd ["self", "other"] (spBin CN mulN fun _ _ => True) := by
  refine F.ok sc_Number___mul__ (fun vs H Q E ⟨_, _, _, _, e, _⟩ => by rw [e]; rfl) (fun cdv A outer s H vs Q E hr h => ⟨_, (pss_cons (ps_if (pt_not (pt_val (pe_c1 G_is_like_number (hr.mono (by decide)) (pa_cons (pv 1) pa_nil)))) (pss_one ps_never) pss_nil)
  (pss_cons (ps_set (i := 2) sc_Number___mul__.nd rfl (by first | exact Or.inl rfl | exact Or.inr rfl) (pe_c1 G_number_of (hr.mono (by decide)) (pa_cons (pv 1) pa_nil)))
  (pss_cons (ps_set (i := 3) sc_Number___mul__.nd rfl (by first | exact Or.inl rfl | exact Or.inr rfl) (pe_c1 G_common_root (hr.mono (by decide)) (pa_cons (pv 0) (pa_cons (pv 2) pa_nil))))
  (pss_cons (ps_set (i := 4) sc_Number___mul__.nd rfl (by first | exact Or.inl rfl | exact Or.inr rfl) (pe_op op_add (pe_op op_mulX (pe_slC T.cN T.sN_top (pv 0)) (pe_slC T.cN T.sN_top (pv 2))) (pe_op op_mulX (pe_op op_mulX (pe_slC T.cN T.sN_part (pv 0)) (pe_slC T.cN T.sN_part (pv 2))) (pv 3))))
  (pss_cons (ps_set (i := 5) sc_Number___mul__.nd rfl (by first | exact Or.inl rfl | exact Or.inr rfl) (pe_op op_add (pe_op op_mulX (pe_slC T.cN T.sN_top (pv 0)) (pe_slC T.cN T.sN_part (pv 2))) (pe_op op_mulX (pe_slC T.cN T.sN_part (pv 0)) (pe_slC T.cN T.sN_top (pv 2)))))
  (pss_one (ps_ret (pe_m1 G_Number (hr.mono (by decide)) (pa_cons (pe_m1 G_Form (hr.mono (by decide)) (pa_cons (pv 4) (pa_cons (pv 5) (pa_cons (pv 3) (pa_cons (pe_op op_mulX (pe_slC T.cN T.sN_bottom (pv 0)) (pe_slC T.cN T.sN_bottom (pv 2))) pa_nil))))) pa_nil))))))))), ?_⟩)
  obtain ⟨x, y, a, b, rfl, ⟨a_self, d_self, rfl, h_self⟩, hy, cm, g_self, g_more, _, q⟩ := h
  refine ⟨_, rfl, y, b, rfl, hy, true, rfl, _, rfl, y, b, rfl, hy, fun v H1 s1 hv => ?_⟩
  have hx1 : At4 CN H1 (.ref a_self) a := At4.same ⟨a_self, d_self, rfl, h_self⟩ s1
  have cr := cRoot_bd g_self g_more
  obtain ⟨a_more, d_more, rfl, h_more⟩ := id hv
  refine ⟨_, rfl, _, rfl, .ref a_self, _, a, b, rfl, hx1, hv, cm, ?_⟩
  obtain ⟨_, d_self, e, h_self⟩ := hx1
  cases e
  have bb : a.b * b.b ≠ 0 := Int.mul_ne_zero g_self.b0 g_more.b0
  exact ⟨_, rfl, a_self, d_self, _, _, rfl, h_self, rfl, _, rfl, a_more, d_more, _, _, rfl, h_more, rfl, _, _, rfl, rfl, Bd.mulx g_self.t g_more.t (by decide), _, rfl, a_self, d_self, _, _, rfl, h_self, rfl, _, rfl, a_more, d_more, _, _, rfl, h_more, rfl, _, _, rfl, rfl, Bd.mulx g_self.p g_more.p (by decide), _, rfl, _, _, rfl, rfl, Bd.mulx (Bd.mul g_self.p g_more.p) cr (by decide), _, _, rfl, rfl, _, rfl, a_self, d_self, _, _, rfl, h_self, rfl, _, rfl, a_more, d_more, _, _, rfl, h_more, rfl, _, _, rfl, rfl, Bd.mulx g_self.t g_more.p (by decide), _, rfl, a_self, d_self, _, _, rfl, h_self, rfl, _, rfl, a_more, d_more, _, _, rfl, h_more, rfl, _, _, rfl, rfl, Bd.mulx g_self.p g_more.t (by decide), _, _, rfl, rfl, _, rfl, _, rfl, _, rfl, _, rfl, a_self, d_self, _, _, rfl, h_self, rfl, _, rfl, a_more, d_more, _, _, rfl, h_more, rfl, _, _, rfl, rfl, Bd.mulx g_self.b g_more.b (by decide),
    form_made bb (Bd.mono (Bd.mul g_self.b g_more.b) (by decide)) fun v H2 s2 hf => num_made (.inl ⟨v, rfl, hf⟩) fun u H3 s3 hn => q u H3 ((s1.trans s2).trans s3) hn⟩
theorem sc_Number_compared : FnScope ["self", "other", "more", "root", "top"] ["self", "other"] (defScope (inClass (topS 21) 11)) := ⟨rfl, rfl, rfl, by decide +kernel, rfl, by decide +kernel, by decide +kernel⟩
theorem ok_compared (F : Fun K "compared" "Number.compared" (inClass (topS 21) 11) f fd) (fr : Free mg) (T : NTxt K mg CN CF) (G_required : GD P w K mg base "required" 9 (spNumOf CN))
    (G_common_root : GD P w K mg base "common_root" 2 (spCommon CN)) (G_sign_of_sum : GD P w K mg base "sign_of_sum" 3 spSignSum) :
    FnOk P w K mg base CX0 10 f fd ["self", "other"] (spCmp CN) := by
  refine F.ok sc_Number_compared (fun vs H Q E ⟨_, _, _, _, e, _⟩ => by rw [e]; rfl) (fun cdv A outer s H vs Q E hr h => ⟨_, (pss_cons (ps_set (i := 2) sc_Number_compared.nd rfl (by first | exact Or.inl rfl | exact Or.inr rfl) (pe_c1 G_required (hr.mono (by decide)) (pa_cons (pv 1) pa_nil)))
  (pss_cons (ps_set (i := 3) sc_Number_compared.nd rfl (by first | exact Or.inl rfl | exact Or.inr rfl) (pe_c1 G_common_root (hr.mono (by decide)) (pa_cons (pv 0) (pa_cons (pv 2) pa_nil))))
  (pss_cons (ps_set (i := 4) sc_Number_compared.nd rfl (by first | exact Or.inl rfl | exact Or.inr rfl) (pe_op op_sub (pe_op op_mulX (pe_slC T.cN T.sN_top (pv 0)) (pe_slC T.cN T.sN_bottom (pv 2))) (pe_op op_mulX (pe_slC T.cN T.sN_top (pv 2)) (pe_slC T.cN T.sN_bottom (pv 0)))))
  (pss_one (ps_ret (pe_c1 G_sign_of_sum (hr.mono (by decide)) (pa_cons (pv 4) (pa_cons (pe_op op_sub (pe_op op_mulX (pe_slC T.cN T.sN_part (pv 0)) (pe_slC T.cN T.sN_bottom (pv 2))) (pe_op op_mulX (pe_slC T.cN T.sN_part (pv 2)) (pe_slC T.cN T.sN_bottom (pv 0)))) (pa_cons (pv 3) pa_nil))))))))), ?_⟩)
  obtain ⟨x, y, a, b, rfl, ⟨a_self, d_self, rfl, h_self⟩, hy, cm, g_self, g_more, q⟩ := h
  refine ⟨_, rfl, y, b, rfl, hy, fun v H1 s1 hv => ?_⟩
  have hx1 : At4 CN H1 (.ref a_self) a := At4.same ⟨a_self, d_self, rfl, h_self⟩ s1
  have cr := cRoot_bd g_self g_more
  obtain ⟨a_more, d_more, rfl, h_more⟩ := id hv
  refine ⟨_, rfl, _, rfl, .ref a_self, _, a, b, rfl, hx1, hv, cm, ?_⟩
  obtain ⟨_, d_self, e, h_self⟩ := hx1
  cases e
  exact ⟨_, rfl, a_self, d_self, _, _, rfl, h_self, rfl, _, rfl, a_more, d_more, _, _, rfl, h_more, rfl, _, _, rfl, rfl, Bd.mulx g_self.t g_more.b (by decide), _, rfl, a_more, d_more, _, _, rfl, h_more, rfl, _, rfl, a_self, d_self, _, _, rfl, h_self, rfl, _, _, rfl, rfl, Bd.mulx g_more.t g_self.b (by decide), _, _, rfl, rfl, _, rfl, _, rfl, a_self, d_self, _, _, rfl, h_self, rfl, _, rfl, a_more, d_more, _, _, rfl, h_more, rfl, _, _, rfl, rfl, Bd.mulx g_self.p g_more.b (by decide), _, rfl, a_more, d_more, _, _, rfl, h_more, rfl, _, rfl, a_self, d_self, _, _, rfl, h_self, rfl, _, _, rfl, rfl, Bd.mulx g_more.p g_self.b (by decide), _, _, rfl, rfl, _, rfl, _, _, _, rfl, Bd.mono (Bd.sub (n := 2000) (m := 2001) (Bd.mono (Bd.mul g_self.t g_more.b) (by decide)) (Bd.mono (Bd.mul g_more.t g_self.b) (by decide)) rfl) (by decide), Bd.mono (Bd.sub (n := 2000) (m := 2001) (Bd.mono (Bd.mul g_self.p g_more.b) (by decide)) (Bd.mono (Bd.mul g_more.p g_self.b) (by decide)) rfl) (by decide), cr, q H1 s1⟩
theorem sc_Number___neg__ : FnScope ["self"] ["self"] (defScope (inClass (topS 21) 16)) := ⟨rfl, rfl, rfl, by decide +kernel, rfl, by decide +kernel, by decide +kernel⟩
theorem ok_neg (F : Fun K "__neg__" "Number.__neg__" (inClass (topS 21) 16) f fd) (T : NTxt K mg CN CF) (G_Form : GM P w K mg base "Form" CF 3 [] (spFormI CF)) (G_Number : GM P w K mg base "Number" CN 6 [.int 0, .int 0, .int 1] (spNumI CN CF)) :
    FnOk P w K mg base CX0 8 f fd ["self"] (spUn CN negN) := by
  refine F.ok sc_Number___neg__ (fun vs H Q E ⟨_, _, e, _⟩ => by rw [e]; rfl) (fun cdv A outer s H vs Q E hr h => ⟨_, (pss_one (ps_ret (pe_m1 G_Number (hr.mono (by decide)) (pa_cons (pe_m1 G_Form (hr.mono (by decide)) (pa_cons (pe_un un_neg (pe_slC T.cN T.sN_top (pv 0))) (pa_cons (pe_un un_neg (pe_slC T.cN T.sN_part (pv 0))) (pa_cons (pe_slC T.cN T.sN_root (pv 0)) (pa_cons (pe_slC T.cN T.sN_bottom (pv 0)) pa_nil))))) pa_nil)))), ?_⟩)
  obtain ⟨x, a, rfl, ⟨a_self, d_self, rfl, h_self⟩, g_self, q⟩ := h
  exact ⟨_, rfl, a_self, d_self, _, _, rfl, h_self, rfl, _, rfl, _, rfl, a_self, d_self, _, _, rfl, h_self, rfl, _, rfl, _, rfl, a_self, d_self, _, _, rfl, h_self, rfl, _, rfl, a_self, d_self, _, _, rfl, h_self, rfl, form_made g_self.b0 (Bd.mono g_self.b (by decide)) fun v H2 s2 hf => num_made (.inl ⟨v, rfl, hf⟩) fun u H3 s3 hn => q u H3 (s2.trans s3) hn⟩
theorem sc_Number_sign : FnScope ["self"] ["self"] (defScope (inClass (topS 21) 7)) := ⟨rfl, rfl, rfl, by decide +kernel, rfl, by decide +kernel, by decide +kernel⟩
theorem ok_sign (F : Fun K "sign" "Number.sign" (inClass (topS 21) 7) f fd) (T : NTxt K mg CN CF) (G_sign_of_sum : GD P w K mg base "sign_of_sum" 3 spSignSum) : FnOk P w K mg base CX0 4 f fd ["self"] (spInt CN fun n => sgnSum n.t n.p n.r) := by
  refine F.ok sc_Number_sign (fun vs H Q E ⟨_, _, e, _⟩ => by rw [e]; rfl) (fun cdv A outer s H vs Q E hr h => ⟨_, (pss_one (ps_ret (pe_c1 G_sign_of_sum (hr.mono (by decide)) (pa_cons (pe_slC T.cN T.sN_top (pv 0)) (pa_cons (pe_slC T.cN T.sN_part (pv 0)) (pa_cons (pe_slC T.cN T.sN_root (pv 0)) pa_nil)))))), ?_⟩)
  obtain ⟨x, a, rfl, ⟨a_self, d_self, rfl, h_self⟩, g_self, q⟩ := h
  exact ⟨_, rfl, a_self, d_self, _, _, rfl, h_self, rfl, _, rfl, a_self, d_self, _, _, rfl, h_self, rfl, _, rfl, a_self, d_self, _, _, rfl, h_self, rfl, _, _, _, rfl, g_self.t.mono (by decide), g_self.p.mono (by decide), g_self.r, q⟩
theorem sc_Number_floor : FnScope ["self"] ["self"] (defScope (inClass (topS 21) 8)) := ⟨rfl, rfl, rfl, by decide +kernel, rfl, by decide +kernel, by decide +kernel⟩
theorem ok_floor (F : Fun K "floor" "Number.floor" (inClass (topS 21) 8) f fd) (T : NTxt K mg CN CF) (G_floor_of : GD P w K mg base "floor_of" 3 spFloor) : FnOk P w K mg base CX0 4 f fd ["self"] (spInt CN fun n => floorN n.t n.p n.r n.b) := by
  refine F.ok sc_Number_floor (fun vs H Q E ⟨_, _, e, _⟩ => by rw [e]; rfl) (fun cdv A outer s H vs Q E hr h => ⟨_, (pss_one (ps_ret (pe_c1 G_floor_of (hr.mono (by decide)) (pa_cons (pe_slC T.cN T.sN_top (pv 0)) (pa_cons (pe_slC T.cN T.sN_part (pv 0)) (pa_cons (pe_slC T.cN T.sN_root (pv 0)) (pa_cons (pe_slC T.cN T.sN_bottom (pv 0)) pa_nil))))))), ?_⟩)
  obtain ⟨x, a, rfl, ⟨a_self, d_self, rfl, h_self⟩, g_self, q⟩ := h
  exact ⟨_, rfl, a_self, d_self, _, _, rfl, h_self, rfl, _, rfl, a_self, d_self, _, _, rfl, h_self, rfl, _, rfl, a_self, d_self, _, _, rfl, h_self, rfl, _, rfl, a_self, d_self, _, _, rfl, h_self, rfl, _, _, _, _, rfl, g_self.p.mono (by decide), g_self.r0, g_self.r, g_self.b.mono (by decide), g_self.b0, q⟩
theorem sc_Number_top : FnScope ["self"] ["self"] (defScope (inClass (topS 21) 3)) := ⟨rfl, rfl, rfl, by decide +kernel, rfl, by decide +kernel, by decide +kernel⟩
theorem ok_p_top (F : Fun K "top" "Number.top" (inClass (topS 21) 3) f fd) (T : NTxt K mg CN CF) : FnOk P w K mg base CX0 2 f fd ["self"] (spInt0 CN fun n => n.t) := by
  refine F.ok sc_Number_top (fun vs H Q E ⟨_, _, e, _⟩ => by rw [e]; rfl) (fun cdv A outer s H vs Q E hr h => ⟨_, (pss_one (ps_ret (pe_slC T.cN T.sN_top (pv 0)))), ?_⟩)
  obtain ⟨x, a, rfl, ⟨a_self, d_self, rfl, h_self⟩, q⟩ := h
  exact ⟨_, rfl, a_self, d_self, _, _, rfl, h_self, rfl, q⟩
theorem sc_Number_part : FnScope ["self"] ["self"] (defScope (inClass (topS 21) 4)) := ⟨rfl, rfl, rfl, by decide +kernel, rfl, by decide +kernel, by decide +kernel⟩
theorem ok_p_part (F : Fun K "part" "Number.part" (inClass (topS 21) 4) f fd) (T : NTxt K mg CN CF) : FnOk P w K mg base CX0 2 f fd ["self"] (spInt0 CN fun n => n.p) := by
  refine F.ok sc_Number_part (fun vs H Q E ⟨_, _, e, _⟩ => by rw [e]; rfl) (fun cdv A outer s H vs Q E hr h => ⟨_, (pss_one (ps_ret (pe_slC T.cN T.sN_part (pv 0)))), ?_⟩)
  obtain ⟨x, a, rfl, ⟨a_self, d_self, rfl, h_self⟩, q⟩ := h
  exact ⟨_, rfl, a_self, d_self, _, _, rfl, h_self, rfl, q⟩
theorem sc_Number_root : FnScope ["self"] ["self"] (defScope (inClass (topS 21) 5)) := ⟨rfl, rfl, rfl, by decide +kernel, rfl, by decide +kernel, by decide +kernel⟩
theorem ok_p_root (F : Fun K "root" "Number.root" (inClass (topS 21) 5) f fd) (T : NTxt K mg CN CF) : FnOk P w K mg base CX0 2 f fd ["self"] (spInt0 CN fun n => n.r) := by
  refine F.ok sc_Number_root (fun vs H Q E ⟨_, _, e, _⟩ => by rw [e]; rfl) (fun cdv A outer s H vs Q E hr h => ⟨_, (pss_one (ps_ret (pe_slC T.cN T.sN_root (pv 0)))), ?_⟩)
  obtain ⟨x, a, rfl, ⟨a_self, d_self, rfl, h_self⟩, q⟩ := h
  exact ⟨_, rfl, a_self, d_self, _, _, rfl, h_self, rfl, q⟩
theorem sc_Number_bottom : FnScope ["self"] ["self"] (defScope (inClass (topS 21) 6)) := ⟨rfl, rfl, rfl, by decide +kernel, rfl, by decide +kernel, by decide +kernel⟩
theorem ok_p_bottom (F : Fun K "bottom" "Number.bottom" (inClass (topS 21) 6) f fd) (T : NTxt K mg CN CF) : FnOk P w K mg base CX0 2 f fd ["self"] (spInt0 CN fun n => n.b) := by
  refine F.ok sc_Number_bottom (fun vs H Q E ⟨_, _, e, _⟩ => by rw [e]; rfl) (fun cdv A outer s H vs Q E hr h => ⟨_, (pss_one (ps_ret (pe_slC T.cN T.sN_bottom (pv 0)))), ?_⟩)
  obtain ⟨x, a, rfl, ⟨a_self, d_self, rfl, h_self⟩, q⟩ := h
  exact ⟨_, rfl, a_self, d_self, _, _, rfl, h_self, rfl, q⟩
theorem sc_Number___eq__ : FnScope ["self", "other"] ["self", "other"] (defScope (inClass (topS 21) 17)) := ⟨rfl, rfl, rfl, by decide +kernel, rfl, by decide +kernel, by decide +kernel⟩
theorem ok_eq (F : Fun K "__eq__" "Number.__eq__" (inClass (topS 21) 17) f fd) (fr : Free mg) (T : NTxt K mg CN CF) : FnOk P w K mg base CX0 2 f fd ["self", "other"] (spEq K CN) := by
  refine F.ok sc_Number___eq__ (fun vs H Q E ⟨_, _, _, e, _⟩ => by rw [e]; rfl) (fun cdv A outer s H vs Q E hr h => ⟨_, (pss_cons (ps_if (PW.pt (pw_or (pt_not (pt_val (pe_callB call_isiU (by rfl) fr.b_isinstance (by decide +kernel) (pa_cons (pv 1) (pa_cons (pe_glob (v := .ref CN) rfl T.gN rfl) pa_nil))))) (pw_or (pt_cmpR op_ne (pe_slC T.cN T.sN_top (pv 0)) (pe_slC T.cN T.sN_top (pv 1)) (nomark _)) (pw_or1 (pt_cmpR op_ne (pe_slC T.cN T.sN_part (pv 0)) (pe_slC T.cN T.sN_part (pv 1)) (nomark _)))))) (pss_one (ps_ret pe_bl)) pss_nil)
  (pss_one (ps_ret (pe_and (pe_cmpR op_eq (pe_slC T.cN T.sN_root (pv 0)) (pe_slC T.cN T.sN_root (pv 1)) (nomark _)) (pe_one (pe_cmpR op_eq (pe_slC T.cN T.sN_bottom (pv 0)) (pe_slC T.cN T.sN_bottom (pv 1)) (nomark _))))))), ?_⟩)
  obtain ⟨x, y, a, rfl, ⟨ax, dx, rfl, hx⟩, ⟨b, hy, q⟩ | ⟨t, ty, hk, q⟩⟩ := h
  rotate_left
  · exact ⟨_, rfl, _, .ref CN, t, _, false, rfl, .own CN, ty, hk, false, rfl, q⟩
  refine ⟨_, rfl, _, .ref CN, _, _, true, rfl, .own CN, hy.ty T.cN T.yN, T.iNN, true, rfl, ?_⟩
  obtain ⟨ay, dy, rfl, hy⟩ := hy
  obtain ⟨at_, ap, ar, ab⟩ := a
  obtain ⟨bt, bp, br, bb⟩ := b
  have no : (at_ ≠ bt ∨ ap ≠ bp) → Q (.bl false) H := fun c => by
    rw [decide_eq_false (show ¬ (Nm.mk at_ ap ar ab = Nm.mk bt bp br bb) from fun e => by cases e; rcases c with c | c <;> exact c rfl)] at q
    exact q
  refine ⟨_, rfl, ax, dx, _, _, rfl, hx, rfl, _, rfl, ay, dy, _, _, rfl, hy, rfl, rfl, _, rfl, ite_ndec (fun c => ?_) fun c => ?_⟩
  · exact no (.inl fun e => c (congrArg V.int e))
  refine ⟨_, rfl, ax, dx, _, _, rfl, hx, rfl, _, rfl, ay, dy, _, _, rfl, hy, rfl, rfl, _, rfl, ite_ndec (fun c => ?_) fun c2 => ?_⟩
  · exact no (.inr fun e => c (congrArg V.int e))
  cases c
  cases c2
  refine ⟨_, rfl, ax, dx, _, _, rfl, hx, rfl, _, rfl, ay, dy, _, _, rfl, hy, rfl, rfl, _, rfl, ite_dec (fun c => ?_) fun c => ?_⟩
  · refine ⟨_, rfl, ax, dx, _, _, rfl, hx, rfl, _, rfl, ay, dy, _, _, rfl, hy, rfl, rfl, ?_⟩
    cases c
    rw [show decide (V.int ab = V.int bb) = decide (Nm.mk at_ ap ar ab = Nm.mk at_ ap ar bb) by
      by_cases e : ab = bb
      · subst e; simp
      · rw [decide_eq_false (fun z => e (V.int.inj z)), decide_eq_false (fun z => e (Nm.mk.inj z).2.2.2)]]
    exact q
  · rw [decide_eq_false (show ¬ (Nm.mk at_ ap ar ab = Nm.mk at_ ap br bb) from fun e => c (congrArg V.int (Nm.mk.inj e).2.2.1))] at q
    exact q
end
end PF

set_option Elab.async false
set_option linter.all false
set_option maxRecDepth 100000
set_option maxHeartbeats 4000000
namespace PF
open PySem PySem.Spec PyProof.Rows L2 SlX
/-! ### one by one -/
inductive All2 {α : Type} (f : V → α → Prop) : List V → List α → Prop where
  | nil : All2 f [] []
  | cons {v : V} {n : α} {vs : List V} {ns : List α} (h : f v n) (t : All2 f vs ns) : All2 f (v :: vs) (n :: ns)
section
variable {α : Type} {f g : V → α → Prop} {vs ws : List V} {ns ms : List α} {v : V} {n : α}
theorem All2.append (h : All2 f vs ns) (k : All2 f ws ms) : All2 f (vs ++ ws) (ns ++ ms) := by
  induction h with
  | nil => exact k
  | cons h _ ih => exact .cons h ih
theorem All2.snoc (h : All2 f vs ns) (k : f v n) : All2 f (vs ++ [v]) (ns ++ [n]) := h.append (.cons k .nil)
theorem All2.imp (h : All2 f vs ns) (k : ∀ v n, f v n → g v n) : All2 g vs ns := by
  induction h with
  | nil => exact .nil
  | cons h _ ih => exact .cons (k _ _ h) ih
theorem All2.len (h : All2 f vs ns) : vs.length = ns.length := by
  induction h with
  | nil => rfl
  | cons h _ ih => rw [List.length_cons, List.length_cons, ih]
theorem All2.get (h : All2 f vs ns) {i : Nat} {n : α} (e : ns[i]? = some n) : ∃ v, vs[i]? = some v ∧ f v n := by
  induction h generalizing i with
  | nil => simp at e
  | cons h _ ih => cases i with
    | zero => simp at e; subst e; exact ⟨_, rfl, h⟩
    | succ i => simpa using ih (by simpa using e)
theorem All2.set (h : All2 f vs ns) (i : Nat) (k : f v n) : All2 f (vs.set i v) (ns.set i n) := by
  induction h generalizing i with
  | nil => exact .nil
  | cons h t ih => cases i with
    | zero => exact .cons k t
    | succ i => exact .cons h (ih i)
theorem All2.erase (h : All2 f vs ns) (i : Nat) : All2 f (vs.eraseIdx i) (ns.eraseIdx i) := by
  induction h generalizing i with
  | nil => exact .nil
  | cons h t ih => cases i with
    | zero => exact t
    | succ i => exact .cons h (ih i)
theorem All2.take (h : All2 f vs ns) (i : Nat) : All2 f (vs.take i) (ns.take i) := by
  induction h generalizing i with
  | nil => simp; exact .nil
  | cons h t ih => cases i with
    | zero => simp; exact .nil
    | succ i => exact .cons h (ih i)
theorem All2.drop (h : All2 f vs ns) (i : Nat) : All2 f (vs.drop i) (ns.drop i) := by
  induction h generalizing i with
  | nil => simp; exact .nil
  | cons h t ih => cases i with
    | zero => exact .cons h t
    | succ i => simpa using ih i
theorem All2.rev (h : All2 f vs ns) : All2 f vs.reverse ns.reverse := by
  induction h with
  | nil => exact .nil
  | cons h _ ih => rw [List.reverse_cons, List.reverse_cons]; exact ih.snoc h
theorem All2.of_map {β : Type} (t : α → V) (k : ∀ n, f (t n) n) : ∀ ns : List α, All2 f (ns.map t) ns
  | [] => .nil
  | n :: ns => .cons (k n) (All2.of_map (β := β) t k ns)
theorem All2.to_map (t : α → V) (k : ∀ v n, f v n → v = t n) (h : All2 f vs ns) : vs = ns.map t := by
  induction h with
  | nil => rfl
  | cons h _ ih => rw [k _ _ h, ih]; rfl
end

/-! ### the dice -/
/-- all that was tracked stays, but the list at p -/
def SameB (p : Addr) (H H' : Hp) : Prop := ∀ b o, b ≠ p → H b = some o → H' b = some o
theorem SameB.refl (p : Addr) (H : Hp) : SameB p H H := fun _ _ _ h => h
theorem SameB.trans {p : Addr} {H H1 H2 : Hp} (a : SameB p H H1) (b : SameB p H1 H2) : SameB p H H2 := fun c o n h => b c o n (a c o n h)
theorem Same.b {p : Addr} {H H' : Hp} (a : Same H H') : SameB p H H' := fun b o _ h => a b o h
theorem SameB.upd {p : Addr} {H H' : Hp} {o : HO} (a : SameB p H H') : SameB p H (upd H' p o) := fun b u n h => by rw [upd_ne n]; exact a b u n h
theorem same_upd {H : Hp} {p : Addr} {o : HO} (h : H p = none) : Same H (upd H p o) := fun b u e => by rw [upd_ne (ne_of_none e h)]; exact e
/-- the dice at p, rolled at most c times -/
def Dice (p : Addr) (H : Hp) (c : Nat) : Prop := ∃ d0 d1 d2 : Int, H p = some (.lst [.int d0, .int d1, .int d2]) ∧ 0 ≤ d0 ∧ Bd 420 d0 ∧ Bd 200 d1 ∧ 0 ≤ d2 ∧ d2 ≤ c
theorem Dice.same {p : Addr} {H H' : Hp} {c : Nat} (d : Dice p H c) (s : Same H H') : Dice p H' c := by
  obtain ⟨d0, d1, d2, h, r⟩ := d
  exact ⟨d0, d1, d2, s _ _ h, r⟩
theorem Dice.mono {p : Addr} {H : Hp} {c c' : Nat} (d : Dice p H c) (l : c ≤ c') : Dice p H c' := by
  obtain ⟨d0, d1, d2, h, a, b, e, f, g⟩ := d
  exact ⟨d0, d1, d2, h, a, b, e, f, by omega⟩

/-! ### what must hold: plain programs -/
/-- an error: its class's name, what it keeps -/
structure Er where
  cls : Str
  val : PyData
structure M (α : Type) where
  wp : Nat → (α → Nat → Prop) → (Er → Prop) → Prop
  mono : ∀ (c : Nat) {P Q : α → Nat → Prop} {X Y : Er → Prop}, (∀ a d, P a d → Q a d) → (∀ e, X e → Y e) → wp c P X → wp c Q Y
namespace M
variable {α β γ : Type}
def ret (a : α) : M α := ⟨fun c Q _ => Q a c, fun _ _ _ _ _ h _ k => h _ _ k⟩
def bind (m : M α) (f : α → M β) : M β := ⟨fun c Q X => m.wp c (fun a d => (f a).wp d Q X) X, fun c _ _ _ _ h x k => m.mono c (fun a d q => (f a).mono d h x q) x k⟩
/-- ahead of the rest, p must hold -/
def need (p : Prop) (m : M α) : M α := ⟨fun c Q X => p ∧ m.wp c Q X, fun c _ _ _ _ h x k => ⟨k.1, m.mono c h x k.2⟩⟩
/-- any value of which P holds -/
def anyOf (P : α → Prop) : M α := ⟨fun c Q _ => ∀ a, P a → Q a c, fun _ _ _ _ _ h _ k a p => h _ _ (k a p)⟩
/-- the value that is there -/
def the (o : Option α) : M α := ⟨fun c Q _ => ∃ a, o = some a ∧ Q a c, fun _ _ _ _ _ h _ ⟨a, e, k⟩ => ⟨a, e, h _ _ k⟩⟩
def ifb (b : Bool) (m n : M α) : M α := ⟨fun c Q X => if b = true then m.wp c Q X else n.wp c Q X, fun c _ _ _ _ h x k => by
  by_cases e : b = true
  · rw [if_pos e] at k ⊢; exact m.mono c h x k
  · rw [if_neg e] at k ⊢; exact n.mono c h x k⟩
def raise (e : Er) : M α := ⟨fun _ _ X => X e, fun _ _ _ _ _ _ x k => x _ k⟩
/-- without the dice -/
def still (m : M α) : M α := ⟨fun c Q X => m.wp 0 (fun a _ => Q a c) X, fun _ _ _ _ _ h x k => m.mono 0 (fun a _ q => h _ _ q) x k⟩
def roll (t : Int) : M Int := ⟨fun c Q _ => c < 2 ^ 60 ∧ 0 < t ∧ Bd 9000 t ∧ ∀ r, 0 ≤ r → r < t → Q r (c + 1), fun c _ _ _ _ h _ k => ⟨k.1, k.2.1, k.2.2.1, fun r a b => h _ _ (k.2.2.2 r a b)⟩⟩
def pick (xs : List α) : M α := ⟨fun c Q _ => c < 2 ^ 60 ∧ 0 < xs.length ∧ xs.length ≤ 1000 ∧ ∀ x ∈ xs, Q x (c + 1), fun c _ _ _ _ h _ k => ⟨k.1, k.2.1, k.2.2.1, fun x a => h _ _ (k.2.2.2 x a)⟩⟩
end M

/-! ### heaps: F what stays for ever, H all that is tracked; p the dice -/
def mutb : HO → Bool
  | .lst _ => true
  | .dK _ => true
  | .dT _ => true
  | .set _ _ => true
  | _ => false
structure ExtX (p : Option Addr) (F H F' H' : Hp) : Prop where
  fz : Same F F'
  sub : Same F' H'
  hp : ∀ b o, p ≠ some b → H b = some o → H' b = some o
  old : ∀ b o, H b = some o → mutb o = true → F' b = F b
  mu : ∀ b o, H b = some o → mutb o = true → ∃ o', H' b = some o' ∧ mutb o' = true
  on : ∀ b, H b ≠ none → H' b ≠ none
theorem ExtX.refl {p : Option Addr} {F H : Hp} (s : Same F H) : ExtX p F H F H := ⟨Same.refl F, s, fun _ _ _ h => h, fun _ _ _ _ => rfl, fun _ o h m => ⟨o, h, m⟩, fun _ h => h⟩
theorem ExtX.trans {p : Option Addr} {F H F1 H1 F2 H2 : Hp} (a : ExtX p F H F1 H1) (b : ExtX p F1 H1 F2 H2) : ExtX p F H F2 H2 :=
  ⟨a.fz.trans b.fz, b.sub, fun c o n h => b.hp c o n (a.hp c o n h), fun c o h m => let ⟨o', h', m'⟩ := a.mu c o h m; (b.old c o' h' m').trans (a.old c o h m), fun c o h m => let ⟨o', h', m'⟩ := a.mu c o h m; b.mu c o' h' m', fun c n => b.on c (a.on c n)⟩
/-- a new thing that stays -/
theorem ExtX.new {p : Option Addr} {F H : Hp} (s : Same F H) {q : Addr} (n : H q = none) (o : HO) : ExtX p F H (upd F q o) (upd H q o) := by
  have nF : F q = none := s.free n
  refine ⟨same_upd nF, fun b u e => ?_, fun b u _ e => same_upd n b u e, fun b u h m => ?_, fun b u h m => ⟨u, same_upd n b u h, m⟩, fun b nb => ?_⟩
  · by_cases c : b = q
    · subst c; rw [upd_same] at e ⊢; exact e
    · rw [upd_ne c] at e ⊢; exact s _ _ e
  · exact upd_ne (ne_of_none h n)
  · by_cases c : b = q
    · subst c; rw [upd_same]; simp
    · rw [upd_ne c]; exact nb
/-- a new thing of one's own -/
theorem ExtX.own {p : Option Addr} {F H : Hp} (s : Same F H) {q : Addr} (n : H q = none) (o : HO) : ExtX p F H F (upd H q o) := by
  refine ⟨Same.refl F, fun b u e => same_upd n _ _ (s _ _ e), fun b u _ e => same_upd n b u e, fun b _ _ _ => rfl, fun b u h m => ⟨u, same_upd n b u h, m⟩, fun b nb => ?_⟩
  by_cases c : b = q
  · subst c; rw [upd_same]; simp
  · rw [upd_ne c]; exact nb
/-- from H to a heap with all of it, nothing new taken as staying -/
theorem ExtX.same {p : Option Addr} {F H H' : Hp} (s : Same F H) (e : Same H H') : ExtX p F H F H' :=
  ⟨Same.refl F, s.trans e, fun b o _ h => e b o h, fun _ _ _ _ => rfl, fun b o h m => ⟨o, e b o h, m⟩, fun b nb => by
    cases q : H b with
    | none => exact absurd q nb
    | some o => rw [e b o q]; simp⟩

/-- what is so all through one call -/
structure Cn where
  p : Option Addr
  F0 : Hp
  H0 : Hp
structure Wo (k : Cn) (F H : Hp) (c : Nat) : Prop where
  sub : Same F H
  ext : ExtX k.p k.F0 k.H0 F H
  dice : ∀ a, k.p = some a → F a = none ∧ k.H0 a ≠ none ∧ Dice a H c
theorem Wo.new {k : Cn} {F H : Hp} {c : Nat} (w : Wo k F H c) {q : Addr} (n : H q = none) (o : HO) : Wo k (upd F q o) (upd H q o) c := by
  have x := ExtX.new (p := k.p) w.sub n o
  refine ⟨x.sub, w.ext.trans x, fun a e => ?_⟩
  obtain ⟨h1, h2, h3⟩ := w.dice a e
  have ne : a ≠ q := fun z => by
    subst z
    obtain ⟨_, _, _, h, _⟩ := h3
    rw [h] at n; cases n
  refine ⟨by rw [upd_ne ne]; exact h1, h2, h3.same (same_upd n)⟩
theorem Wo.own {k : Cn} {F H : Hp} {c : Nat} (w : Wo k F H c) {q : Addr} (n : H q = none) (o : HO) : Wo k F (upd H q o) c := by
  have x := ExtX.own (p := k.p) w.sub n o
  refine ⟨x.sub, w.ext.trans x, fun a e => ?_⟩
  obtain ⟨h1, h2, h3⟩ := w.dice a e
  exact ⟨h1, h2, h3.same (same_upd n)⟩
/-- a call that leaves the dice as they are -/
theorem Wo.call {k : Cn} {F H F' H' : Hp} {c : Nat} (w : Wo k F H c) (x : ExtX none F H F' H') : ExtX k.p F H F' H' ∧ Wo k F' H' c := by
  have y : ExtX k.p F H F' H' := ⟨x.fz, x.sub, fun b o _ h => x.hp b o (fun z => nomatch z) h, x.old, x.mu, x.on⟩
  refine ⟨y, x.sub, w.ext.trans y, fun a e => ?_⟩
  obtain ⟨h1, h2, h3⟩ := w.dice a e
  obtain ⟨d0, d1, d2, h, r⟩ := h3
  exact ⟨(x.old a _ h rfl).trans h1, h2, d0, d1, d2, x.hp a _ (fun z => nomatch z) h, r⟩

/-! ### how plain values stand in the heap -/
structure Rp (α : Type) where
  r : Hp → V → α → Prop
  st : ∀ {F F' : Hp} {v : V} {a : α}, Same F F' → r F v a → r F' v a
def rInt : Rp Int := ⟨fun _ v i => v = .int i, fun _ h => h⟩
def rBl : Rp Bool := ⟨fun _ v b => v = .bl b, fun _ h => h⟩
def rStr : Rp Str := ⟨fun _ v x => v = .str x, fun _ h => h⟩
def rNon : Rp Unit := ⟨fun _ v _ => v = .non, fun _ h => h⟩
def rLst {α : Type} (K : PySem.W.Frag) (R : Rp α) : Rp (List α) :=
  ⟨fun F v xs => ∃ p vs, v = .ref p ∧ SqL K F p vs ∧ All2 (R.r F) vs xs, fun s ⟨p, vs, e, h, t⟩ => ⟨p, vs, e, s.seq h, t.imp fun _ _ g => R.st s g⟩⟩
theorem same_seqT {K : PySem.W.Frag} {H H' : Hp} {a : Addr} {xs : List V} (e : Same H H') (h : SqT K H a xs) : SqT K H' a xs := by
  rcases h with (h | ⟨o, h⟩) | h
  · exact .inl (.inl (e _ _ h))
  · exact .inl (.inr ⟨o, e _ _ h⟩)
  · exact .inr h
def rTup {α : Type} (K : PySem.W.Frag) (R : Rp α) : Rp (List α) :=
  ⟨fun F v xs => ∃ p vs, v = .ref p ∧ SqT K F p vs ∧ All2 (R.r F) vs xs, fun s ⟨p, vs, e, h, t⟩ => ⟨p, vs, e, same_seqT s h, t.imp fun _ _ g => R.st s g⟩⟩
/-- rows of values -/
structure RA (α : Type) where
  r : Hp → List V → α → Prop
  st : ∀ {F F' : Hp} {vs : List V} {a : α}, Same F F' → r F vs a → r F' vs a
  n : Nat
  len : ∀ {F : Hp} {vs : List V} {a : α}, r F vs a → vs.length = n
def aNil : RA Unit := ⟨fun _ vs _ => vs = [], fun _ h => h, 0, fun h => by rw [h]; rfl⟩
def aCons {α β : Type} (R : Rp α) (S : RA β) : RA (α × β) :=
  ⟨fun F vs a => ∃ v ws, vs = v :: ws ∧ R.r F v a.1 ∧ S.r F ws a.2, fun s ⟨v, ws, e, h, t⟩ => ⟨v, ws, e, R.st s h, S.st s t⟩, S.n + 1, fun ⟨v, ws, e, h, t⟩ => by rw [e, List.length_cons, S.len t]⟩
/-- a tuple of several kinds -/
def rTx {α : Type} (K : PySem.W.Frag) (S : RA α) : Rp α :=
  ⟨fun F v a => ∃ p vs, v = .ref p ∧ SqT K F p vs ∧ S.r F vs a, fun s ⟨p, vs, e, h, t⟩ => ⟨p, vs, e, same_seqT s h, S.st s t⟩⟩

/-! ### slots, the names of a def -/
structure SR (α : Type) where
  r : Option Addr → Hp → Hp → Hp → Option V → α → Prop
  own : Option V → Option Addr
  step : ∀ {p : Option Addr} {H0 F H F' H' : Hp} {o : Option V} {a : α}, ExtX p F H F' H' → r p H0 F H o a → r p H0 F' H' o a
  upd : ∀ {p : Option Addr} {H0 F H : Hp} {o : Option V} {a : α} {D : Addr} {x : HO}, own o ≠ some D → r p H0 F H o a → r p H0 F (L2.upd H D x) o a
  fz : ∀ {p : Option Addr} {H0 F H : Hp} {o : Option V} {a : α} {D : Addr} {x : HO}, Same F (L2.upd F D x) → own o ≠ some D → r p H0 F H o a → r p H0 (L2.upd F D x) H o a
  has : ∀ {p : Option Addr} {H0 F H : Hp} {o : Option V} {a : α} {D : Addr}, r p H0 F H o a → own o = some D → H D ≠ none ∧ F D = none ∧ H0 D = none ∧ p ≠ some D
/-- not to be read -/
def sUn : SR Unit := ⟨fun _ _ _ _ _ _ => True, fun _ => none, fun _ h => h, fun _ h => h, fun _ _ h => h, fun _ e => nomatch e⟩
def sVal {α : Type} (R : Rp α) : SR α :=
  ⟨fun _ _ F _ o a => ∃ v, o = some v ∧ R.r F v a, fun _ => none, fun x ⟨v, e, h⟩ => ⟨v, e, R.st x.fz h⟩, fun _ h => h, fun s _ ⟨v, e, h⟩ => ⟨v, e, R.st s h⟩, fun _ e => nomatch e⟩
/-- the dice -/
def sDice : SR Unit := ⟨fun p _ _ _ o _ => ∃ a, o = some (.ref a) ∧ p = some a, fun _ => none, fun _ h => h, fun _ h => h, fun _ _ h => h, fun _ e => nomatch e⟩
/-- a list of the def's own, which nothing else leads to -/
def sOwn {α : Type} (R : Rp α) : SR (List α) where
  r := fun p H0 F H o xs => ∃ D vs, o = some (.ref D) ∧ H D = some (.lst vs) ∧ All2 (R.r F) vs xs ∧ F D = none ∧ H0 D = none ∧ p ≠ some D
  own := fun o => match o with
    | some (.ref D) => some D
    | _ => none
  step := fun x ⟨D, vs, e, h, t, n1, n2, n3⟩ => ⟨D, vs, e, x.hp D _ n3 h, t.imp fun _ _ g => R.st x.fz g, (x.old D _ h rfl).trans n1, n2, n3⟩
  upd := fun c ⟨D, vs, e, h, t, n1, n2, n3⟩ => ⟨D, vs, e, by rw [upd_ne (fun z => c (by rw [e, z]))]; exact h, t, n1, n2, n3⟩
  fz := fun s c ⟨D, vs, e, h, t, n1, n2, n3⟩ => ⟨D, vs, e, h, t.imp fun _ _ g => R.st s g, by rw [upd_ne (fun z => c (by rw [e, z]))]; exact n1, n2, n3⟩
  has := fun ⟨D, vs, e, h, t, n1, n2, n3⟩ c => by
    subst e
    cases c
    exact ⟨by rw [h]; simp, n1, n2, n3⟩

structure EV (Γ : Type) where
  r : Option Addr → Hp → Hp → Hp → L2.St → Γ → Prop
  owns : L2.St → List Addr
  step : ∀ {p : Option Addr} {H0 F H F' H' : Hp} {σ : L2.St} {ρ : Γ}, ExtX p F H F' H' → r p H0 F H σ ρ → r p H0 F' H' σ ρ
  upd : ∀ {p : Option Addr} {H0 F H : Hp} {σ : L2.St} {ρ : Γ} {D : Addr} {x : HO}, D ∉ owns σ → r p H0 F H σ ρ → r p H0 F (L2.upd H D x) σ ρ
  fz : ∀ {p : Option Addr} {H0 F H : Hp} {σ : L2.St} {ρ : Γ} {D : Addr} {x : HO}, Same F (L2.upd F D x) → D ∉ owns σ → r p H0 F H σ ρ → r p H0 (L2.upd F D x) H σ ρ
  has : ∀ {p : Option Addr} {H0 F H : Hp} {σ : L2.St} {ρ : Γ} {D : Addr}, r p H0 F H σ ρ → D ∈ owns σ → H D ≠ none ∧ F D = none ∧ H0 D = none ∧ p ≠ some D
def eNil : EV Unit := ⟨fun _ _ _ _ σ _ => σ = [], fun _ => [], fun _ h => h, fun _ h => h, fun _ _ h => h, fun _ h => nomatch h⟩
def eCons {α Γ : Type} (S : SR α) (E : EV Γ) : EV (α × Γ) where
  r := fun p H0 F H σ ρ => ∃ o τ, σ = o :: τ ∧ S.r p H0 F H o ρ.1 ∧ E.r p H0 F H τ ρ.2
  owns := fun σ => match σ with
    | [] => []
    | o :: τ => (S.own o).toList ++ E.owns τ
  step := fun x ⟨o, τ, e, h, t⟩ => ⟨o, τ, e, S.step x h, E.step x t⟩
  upd := fun c ⟨o, τ, e, h, t⟩ => ⟨o, τ, e, S.upd (fun z => c (by rw [e]; exact List.mem_append_left _ (by rw [z]; simp))) h, E.upd (fun z => c (by rw [e]; exact List.mem_append_right _ z)) t⟩
  fz := fun s c ⟨o, τ, e, h, t⟩ => ⟨o, τ, e, S.fz s (fun z => c (by rw [e]; exact List.mem_append_left _ (by rw [z]; simp))) h, E.fz s (fun z => c (by rw [e]; exact List.mem_append_right _ z)) t⟩
  has := fun ⟨o, τ, e, h, t⟩ c => by
    subst e
    rcases List.mem_append.mp c with c | c
    · exact S.has h (by cases q : S.own o with
        | none => rw [q] at c; simp at c
        | some x => rw [q] at c; simp at c; rw [c])
    · exact E.has t c
/-- the names of a def, all apart -/
structure EI {Γ : Type} (k : Cn) (E : EV Γ) (F H : Hp) (σ : L2.St) (ρ : Γ) : Prop where
  r : E.r k.p k.H0 F H σ ρ
  nd : (E.owns σ).Nodup
theorem EI.step {Γ : Type} {k : Cn} {E : EV Γ} {F H F' H' : Hp} {σ : L2.St} {ρ : Γ} (e : EI k E F H σ ρ) (x : ExtX k.p F H F' H') : EI k E F' H' σ ρ := ⟨E.step x e.r, e.nd⟩
structure GetS {Γ α : Type} (E : EV Γ) (i : Nat) (S : SR α) (g : Γ → α) : Prop where
  get : ∀ {p : Option Addr} {H0 F H : Hp} {σ : L2.St} {ρ : Γ}, E.r p H0 F H σ ρ → ∃ o, σ[i]? = some o ∧ S.r p H0 F H o (g ρ)
theorem get0 {Γ α : Type} {S : SR α} {E : EV Γ} : GetS (eCons S E) 0 S (·.1) := ⟨fun ⟨o, τ, e, h, _⟩ => ⟨o, by rw [e]; rfl, h⟩⟩
theorem getS {Γ α β : Type} {S : SR α} {T : SR β} {E : EV Γ} {i : Nat} {g : Γ → α} (h : GetS E i S g) : GetS (eCons T E) (i + 1) S (fun ρ => g ρ.2) :=
  ⟨fun ⟨o, τ, e, _, t⟩ => by obtain ⟨o', q, r⟩ := h.get t; exact ⟨o', by rw [e]; simpa using q, r⟩⟩
structure PutS {Γ Γ' β : Type} (E : EV Γ) (i : Nat) (S' : SR β) (E' : EV Γ') (put : Γ → β → Γ') : Prop where
  put : ∀ {p : Option Addr} {H0 F H : Hp} {σ : L2.St} {ρ : Γ} {o : Option V} {b : β}, E.r p H0 F H σ ρ → S'.r p H0 F H o b → E'.r p H0 F H (σ.set i o) (put ρ b)
  sub : ∀ {σ : L2.St} {o : Option V} {x : Addr}, x ∈ E'.owns (σ.set i o) → x ∈ E.owns σ ∨ S'.own o = some x
  nd : ∀ {σ : L2.St} {o : Option V}, (E.owns σ).Nodup → (∀ D, S'.own o = some D → D ∉ E.owns σ) → (E'.owns (σ.set i o)).Nodup
theorem put0 {Γ α β : Type} {S : SR α} {S' : SR β} {E : EV Γ} : PutS (eCons S E) 0 S' (eCons S' E) (fun ρ b => (b, ρ.2)) where
  put := fun ⟨o, τ, e, _, t⟩ h => ⟨_, τ, by rw [e]; rfl, h, t⟩
  sub := fun {σ o x} h => by
    cases σ with
    | nil => exact .inl h
    | cons y τ =>
      rcases List.mem_append.mp h with h | h
      · exact .inr (by cases q : S'.own o with
          | none => rw [q] at h; simp at h
          | some x => rw [q] at h; simp at h; rw [h])
      · exact .inl (List.mem_append_right _ h)
  nd := fun {σ o} n a => by
    cases σ with
    | nil => exact n
    | cons y τ =>
      have n2 : (E.owns τ).Nodup := (List.nodup_append.mp n).2.1
      show ((S'.own o).toList ++ E.owns τ).Nodup
      cases q : S'.own o with
      | none => simpa using n2
      | some x => simpa using ⟨fun z => a x q (List.mem_append_right _ z), n2⟩
theorem putS {Γ Γ' α β : Type} {S' : SR β} {T : SR α} {E : EV Γ} {E' : EV Γ'} {i : Nat} {put : Γ → β → Γ'} (h : PutS E i S' E' put) : PutS (eCons T E) (i + 1) S' (eCons T E') (fun ρ b => (ρ.1, put ρ.2 b)) where
  put := fun ⟨o, τ, e, q, t⟩ s => ⟨o, τ.set i _, by rw [e]; rfl, q, h.put t s⟩
  sub := fun {σ o x} z => by
    cases σ with
    | nil => exact .inl z
    | cons y τ =>
      rcases List.mem_append.mp z with z | z
      · exact .inl (List.mem_append_left _ z)
      · exact (h.sub z).imp (List.mem_append_right _) id
  nd := fun {σ o} n a => by
    cases σ with
    | nil => exact n
    | cons y τ =>
      obtain ⟨n1, n2, n3⟩ := List.nodup_append.mp n
      refine List.nodup_append.mpr ⟨n1, h.nd n2 fun D e z => a D e (List.mem_append_right _ z), fun x hx y' hy z => ?_⟩
      subst z
      rcases h.sub hy with hy | hy
      · exact n3 x hx x hy rfl
      · exact a x hy (List.mem_append_left _ hx)
/-- the list of one's own in slot i, written -/
structure ModS {Γ α : Type} (E : EV Γ) (i : Nat) (R : Rp α) (g : Γ → List α) (put : Γ → List α → Γ) : Prop where
  get : ∀ {p : Option Addr} {H0 F H : Hp} {σ : L2.St} {ρ : Γ}, E.r p H0 F H σ ρ → ∃ D vs, σ[i]? = some (some (.ref D)) ∧ H D = some (.lst vs) ∧ All2 (R.r F) vs (g ρ) ∧ D ∈ E.owns σ
  mod : ∀ {p : Option Addr} {H0 F H : Hp} {σ : L2.St} {ρ : Γ} {D : Addr} {vs : List V} {xs : List α}, E.r p H0 F H σ ρ → (E.owns σ).Nodup → σ[i]? = some (some (.ref D)) → All2 (R.r F) vs xs → E.r p H0 F (upd H D (.lst vs)) σ (put ρ xs)
theorem mod0 {Γ α : Type} {R : Rp α} {E : EV Γ} : ModS (eCons (sOwn R) E) 0 R (·.1) (fun ρ xs => (xs, ρ.2)) where
  get := fun ⟨o, τ, e, ⟨D, vs, e2, h, t, _⟩, _⟩ => ⟨D, vs, by rw [e, e2]; rfl, h, t, by rw [e, e2]; exact List.mem_cons_self⟩
  mod := fun {p H0 F H σ ρ D vs xs} ⟨o, τ, e, ⟨D', vs', e2, h, t, n1, n2, n3⟩, q⟩ n hi a => by
    subst e e2
    obtain rfl : D' = D := by
      have hi' : some (some (V.ref D')) = some (some (V.ref D)) := hi
      cases hi'; rfl
    have n2' : D' ∉ E.owns τ := (List.nodup_cons.mp n).1
    exact ⟨_, τ, rfl, ⟨D', vs, rfl, upd_same, a, n1, n2, n3⟩, E.upd n2' q⟩
theorem modS {Γ α β : Type} {R : Rp α} {T : SR β} {E : EV Γ} {i : Nat} {g : Γ → List α} {put : Γ → List α → Γ} (m : ModS E i R g put) : ModS (eCons T E) (i + 1) R (fun ρ => g ρ.2) (fun ρ xs => (ρ.1, put ρ.2 xs)) where
  get := fun ⟨o, τ, e, _, q⟩ => by
    obtain ⟨D, vs, h1, h2, h3, h4⟩ := m.get q
    exact ⟨D, vs, by rw [e]; simpa using h1, h2, h3, by rw [e]; exact List.mem_append_right _ h4⟩
  mod := fun {p H0 F H σ ρ D vs xs} ⟨o, τ, e, t, q⟩ n hi a => by
    subst e
    obtain ⟨n1, n2, n3⟩ := List.nodup_append.mp n
    have hi' : τ[i]? = some (some (.ref D)) := by simpa using hi
    obtain ⟨D', vs', h1, h2, h3, h4⟩ := m.get q
    rw [hi'] at h1
    obtain rfl : D = D' := by cases h1; rfl
    refine ⟨o, τ, rfl, T.upd (fun z => n3 D (by rw [z]; simp) D h4 rfl) t, m.mod q n2 hi' a⟩
end PF

set_option Elab.async false
set_option linter.all false
set_option maxRecDepth 100000
set_option maxHeartbeats 4000000
namespace PF
open PySem PySem.Spec PyProof.Rows L2 SlX
/-! ### readings by plain programs -/
structure Md where
  Z : Hp → Er → Value → Option Addr → Prop
  XE : XK
/-- where nothing is raised -/
def md0 : Md := ⟨fun _ _ _ _ => True, fun _ _ _ => False⟩
def VP {α : Type} (k : Cn) (F H : Hp) (R : Rp α) (Q : VK) : α → Nat → Prop := fun a c' => ∀ v F' H', ExtX k.p F H F' H' → Wo k F' H' c' → R.r F' v a → Q v H'
def VN {α : Type} (k : Cn) (F H : Hp) (R : Rp α) (Q : VK) : List α → Nat → Prop := fun xs c' => ∀ D vs F' H', ExtX k.p F H F' H' → Wo k F' H' c' → H D = none → k.H0 D = none → H' D = some (.lst vs) → F' D = none → All2 (R.r F') vs xs → Q (.ref D) H'
def XP (μ : Md) (k : Cn) : Er → Prop := fun e => ∀ cls d F' H', ExtX k.p k.F0 k.H0 F' H' → μ.Z F' e cls d → μ.XE cls d H'
def AP {α : Type} (k : Cn) (F H : Hp) (S : RA α) (Q : List V → Hp → Prop) : α → Nat → Prop := fun a c' => ∀ vs F' H', ExtX k.p F H F' H' → Wo k F' H' c' → S.r F' vs a → Q vs H'
def BP (k : Cn) (F H : Hp) (Q : Bool → Hp → Prop) : Bool → Nat → Prop := fun b c' => ∀ F' H', ExtX k.p F H F' H' → Wo k F' H' c' → Q b H'
/-- a walked thing that gives xs -/
def Walks {α : Type} (J : It) (F1 : Hp) (R : Rp α) (xs : List α) : Prop := ∀ (i : Nat) (F' H' : Hp), Same F1 F' → Same F' H' →
  (∀ a, xs[i]? = some a → J.go i H' ∧ ∀ x H'', J.yld i H' x H'' → ∃ F'', ExtX none F' H' F'' H'' ∧ R.r F'' x a) ∧ (xs.length ≤ i → J.stop i H')
def IP {α : Type} (k : Cn) (F H : Hp) (R : Rp α) (W : It → Hp → Prop) : List α → Nat → Prop := fun xs c' => ∀ J F' H', ExtX k.p F H F' H' → Wo k F' H' c' → Walks J F' R xs → W J H'
section
variable {Γ : Type} {α β γ : Type} (μ : Md)
def SE (E : EV Γ) (R : Rp α) (te : TE) (m : Γ → M α) : Prop := ∀ (k : Cn) (F H : Hp) (σ : L2.St) (ρ : Γ) (c : Nat) (Q : VK), Wo k F H c → EI k E F H σ ρ → (m ρ).wp c (VP k F H R Q) (XP μ k) → te σ H Q
def SN (E : EV Γ) (R : Rp α) (te : TE) (m : Γ → M (List α)) : Prop := ∀ (k : Cn) (F H : Hp) (σ : L2.St) (ρ : Γ) (c : Nat) (Q : VK), Wo k F H c → EI k E F H σ ρ → (m ρ).wp c (VN k F H R Q) (XP μ k) → te σ H Q
def ST (E : EV Γ) (tt : TT) (m : Γ → M Bool) : Prop := ∀ (k : Cn) (F H : Hp) (σ : L2.St) (ρ : Γ) (c : Nat) (Q : Bool → Hp → Prop), Wo k F H c → EI k E F H σ ρ → (m ρ).wp c (BP k F H Q) (XP μ k) → tt σ H Q
def SA (E : EV Γ) (S : RA α) (ta : TA) (m : Γ → M α) : Prop := ∀ (k : Cn) (F H : Hp) (σ : L2.St) (ρ : Γ) (c : Nat) (Q : List V → Hp → Prop), Wo k F H c → EI k E F H σ ρ → (m ρ).wp c (AP k F H S Q) (XP μ k) → ta σ H Q
def SI (E : EV Γ) (R : Rp α) (wi : TI) (m : Γ → M (List α)) : Prop := ∀ (k : Cn) (F H : Hp) (σ : L2.St) (ρ : Γ) (c : Nat) (W : It → Hp → Prop), Wo k F H c → EI k E F H σ ρ → (m ρ).wp c (IP k F H R W) (XP μ k) → wi σ H W
/-- operators by values -/
def OpS (r : R2) (Ra : Rp α) (Rb : Rp β) (R : Rp γ) (mf : α → β → M γ) : Prop := ∀ (k : Cn) (F H : Hp) (c : Nat) (x y : V) (a : α) (b : β) (Q : VK), Wo k F H c → Ra.r F x a → Rb.r F y b → (mf a b).wp c (VP k F H R Q) (XP μ k) → r x y H Q
def OpN (r : R2) (Ra : Rp α) (Rb : Rp β) (R : Rp γ) (mf : α → β → M (List γ)) : Prop := ∀ (k : Cn) (F H : Hp) (c : Nat) (x y : V) (a : α) (b : β) (Q : VK), Wo k F H c → Ra.r F x a → Rb.r F y b → (mf a b).wp c (VN k F H R Q) (XP μ k) → r x y H Q
def UnS (r : V → Hp → VK → Prop) (Ra : Rp α) (R : Rp γ) (mf : α → M γ) : Prop := ∀ (k : Cn) (F H : Hp) (c : Nat) (x : V) (a : α) (Q : VK), Wo k F H c → Ra.r F x a → (mf a).wp c (VP k F H R Q) (XP μ k) → r x H Q
def CaS (r : List V → Hp → VK → Prop) (S : RA α) (R : Rp γ) (mf : α → M γ) : Prop := ∀ (k : Cn) (F H : Hp) (c : Nat) (vs : List V) (a : α) (Q : VK), Wo k F H c → S.r F vs a → (mf a).wp c (VP k F H R Q) (XP μ k) → r vs H Q
def CaN (r : List V → Hp → VK → Prop) (S : RA α) (R : Rp γ) (mf : α → M (List γ)) : Prop := ∀ (k : Cn) (F H : Hp) (c : Nat) (vs : List V) (a : α) (Q : VK), Wo k F H c → S.r F vs a → (mf a).wp c (VN k F H R Q) (XP μ k) → r vs H Q
end
/-- the list: what is a tracked list -/
def rLs {α : Type} (R : Rp α) : Rp (List α) :=
  ⟨fun F v xs => ∃ p vs, v = .ref p ∧ F p = some (.lst vs) ∧ All2 (R.r F) vs xs, fun s ⟨p, vs, e, h, t⟩ => ⟨p, vs, e, s _ _ h, t.imp fun _ _ g => R.st s g⟩⟩
section
variable {Γ Γ' : Type} {α β γ δ : Type} {μ : Md} {E : EV Γ} {Ra : Rp α} {Rb : Rp β} {R : Rp γ} {Rd : Rp δ}
theorem VP.ext {k : Cn} {F H F1 H1 : Hp} {Q : VK} {a : α} {c : Nat} (x : ExtX k.p F H F1 H1) (h : VP k F H Ra Q a c) : VP k F1 H1 Ra Q a c := fun v F' H' y w r => h v F' H' (x.trans y) w r
theorem VN.ext {k : Cn} {F H F1 H1 : Hp} {Q : VK} {a : List α} {c : Nat} (x : ExtX k.p F H F1 H1) (h : VN k F H Ra Q a c) : VN k F1 H1 Ra Q a c := fun D vs F' H' y w n n0 r f t => h D vs F' H' (x.trans y) w (by
  cases q : H D with
  | none => rfl
  | some o => exact absurd n (x.on D (by rw [q]; simp))) n0 r f t
theorem wp_imp {m : M α} {c : Nat} {P Q : α → Nat → Prop} {X : Er → Prop} (h : m.wp c P X) (f : ∀ a d, P a d → Q a d) : m.wp c Q X := m.mono c f (fun _ z => z) h
theorem Wo.h0 {k : Cn} {F H : Hp} {c : Nat} (w : Wo k F H c) {D : Addr} (n : H D = none) : k.H0 D = none := by
  cases q : k.H0 D with
  | none => rfl
  | some o => exact absurd n (w.ext.on D (by rw [q]; simp))
theorem Wo.np {k : Cn} {F H : Hp} {c : Nat} (w : Wo k F H c) {D : Addr} (n : k.H0 D = none) : k.p ≠ some D := fun e => (w.dice D e).2.1 n
/-- a thing of one's own is let go: it stays from now on -/
theorem Wo.fz {k : Cn} {F H : Hp} {c : Nat} (w : Wo k F H c) {D : Addr} {o : HO} (n : k.H0 D = none) (f : F D = none) (h : H D = some o) : Same F (upd F D o) ∧ Wo k (upd F D o) H c := by
  have s : Same F (upd F D o) := same_upd f
  have sub : Same (upd F D o) H := fun b u e => by
    by_cases z : b = D
    · subst z; rw [upd_same] at e; rw [h]; exact e
    · rw [upd_ne z] at e; exact w.sub _ _ e
  have h0 : ∀ b, k.H0 b ≠ none → b ≠ D := fun b nb z => by subst z; exact nb n
  exact ⟨s, sub, ⟨w.ext.fz.trans s, sub, w.ext.hp, fun b u hb m => by rw [upd_ne (h0 b (by rw [hb]; simp))]; exact w.ext.old b u hb m, w.ext.mu, w.ext.on⟩, fun a e => by
    obtain ⟨q1, q2, q3⟩ := w.dice a e
    exact ⟨by rw [upd_ne (h0 a q2)]; exact q1, q2, q3⟩⟩
/-- what is one's own is let go -/
theorem VN.of {k : Cn} {F H : Hp} {Q : VK} {xs : List α} {c : Nat} (h : VP k F H (rLs Ra) Q xs c) : VN k F H Ra Q xs c := fun D vs F' H' x w n n0 r f t => by
  obtain ⟨s, w2⟩ := w.fz n0 f r
  exact h (.ref D) _ H' ⟨x.fz.trans s, w2.sub, x.hp, fun b u hb m => by
    rw [upd_ne (ne_of_none hb n)]; exact x.old b u hb m, x.mu, x.on⟩ w2 ⟨D, vs, rfl, upd_same, t.imp fun _ _ g => Ra.st s g⟩
theorem SN.se {te : TE} {m : Γ → M (List α)} (h : SN μ E Ra te m) : SE μ E (rLs Ra) te m := fun k F H σ ρ c Q w e q => h k F H σ ρ c Q w e (wp_imp q fun _ _ z => VN.of z)
theorem OpN.os {r : R2} {mf : α → β → M (List γ)} (h : OpN μ r Ra Rb R mf) : OpS μ r Ra Rb (rLs R) mf := fun k F H c x y a b Q w p q z => h k F H c x y a b Q w p q (wp_imp z fun _ _ z => VN.of z)
theorem CaN.cs {r : List V → Hp → VK → Prop} {S : RA α} {mf : α → M (List γ)} (h : CaN μ r S R mf) : CaS μ r S (rLs R) mf := fun k F H c x a Q w p z => h k F H c x a Q w p (wp_imp z fun _ _ z => VN.of z)

/-! ### names, constants, operators -/
theorem e_var {i : Nat} {g : Γ → α} (h : GetS E i (sVal Ra) g) : SE μ E Ra (tVar i) fun ρ => .ret (g ρ) := fun k F H σ ρ c Q w e q => by
  obtain ⟨o, h1, v, rfl, r⟩ := h.get e.r
  exact ⟨v, h1, q v F H (ExtX.refl w.sub) w r⟩
theorem e_c {v : V} {a : α} (h : ∀ F, Ra.r F v a) : SE μ E Ra (tC v) fun _ => .ret a := fun k F H σ ρ c Q w e q => q v F H (ExtX.refl w.sub) w (h F)
theorem e_int {i : Int} : SE μ E rInt (tC (.int i)) fun _ => .ret i := e_c fun _ => rfl
theorem e_bl {b : Bool} : SE μ E rBl (tC (.bl b)) fun _ => .ret b := e_c fun _ => rfl
theorem e_str {x : Str} : SE μ E rStr (tC (.str x)) fun _ => .ret x := e_c fun _ => rfl
theorem e_non : SE μ E rNon (tC .non) fun _ => .ret () := e_c fun _ => rfl
theorem e_op {r : R2} {ta tb : TE} {ma : Γ → M α} {mb : Γ → M β} {mf : α → β → M γ} (ho : OpS μ r Ra Rb R mf) (ha : SE μ E Ra ta ma) (hb : SE μ E Rb tb mb) :
    SE μ E R (tOp r ta tb) fun ρ => (ma ρ).bind fun a => (mb ρ).bind fun b => mf a b := fun k F H σ ρ c Q w e h =>
  ha k F H σ ρ c _ w e (wp_imp h fun a c1 q v F1 H1 x1 w1 r1 => hb k F1 H1 σ ρ c1 _ w1 (e.step x1) (wp_imp q fun b c2 q v2 F2 H2 x2 w2 r2 =>
    ho k F2 H2 c2 v v2 a b Q w2 (Ra.st x2.fz r1) r2 (wp_imp q fun _ _ z => VP.ext (x1.trans x2) z)))
theorem n_op {r : R2} {ta tb : TE} {ma : Γ → M α} {mb : Γ → M β} {mf : α → β → M (List γ)} (ho : OpN μ r Ra Rb R mf) (ha : SE μ E Ra ta ma) (hb : SE μ E Rb tb mb) :
    SN μ E R (tOp r ta tb) fun ρ => (ma ρ).bind fun a => (mb ρ).bind fun b => mf a b := fun k F H σ ρ c Q w e h =>
  ha k F H σ ρ c _ w e (wp_imp h fun a c1 q v F1 H1 x1 w1 r1 => hb k F1 H1 σ ρ c1 _ w1 (e.step x1) (wp_imp q fun b c2 q v2 F2 H2 x2 w2 r2 =>
    ho k F2 H2 c2 v v2 a b Q w2 (Ra.st x2.fz r1) r2 (wp_imp q fun _ _ z => VN.ext (x1.trans x2) z)))
theorem e_un {r : V → Hp → VK → Prop} {ta : TE} {ma : Γ → M α} {mf : α → M γ} (ho : UnS μ r Ra R mf) (ha : SE μ E Ra ta ma) :
    SE μ E R (tUn r ta) fun ρ => (ma ρ).bind mf := fun k F H σ ρ c Q w e h =>
  ha k F H σ ρ c _ w e (wp_imp h fun a c1 q v F1 H1 x1 w1 r1 => ho k F1 H1 c1 v a Q w1 r1 (wp_imp q fun _ _ z => VP.ext x1 z))
theorem o_ii {g : Int → Int → V} {f : Int → Int → Int} (h : ∀ i j, g i j = .int (f i j)) : OpS μ (rI0 g) rInt rInt rInt fun i j => .ret (f i j) := fun k F H c x y i j Q w hx hy q => ⟨i, j, hx, hy, q _ F H (ExtX.refl w.sub) w (h i j)⟩
theorem o_ib {g : Int → Int → V} {f : Int → Int → Bool} (h : ∀ i j, g i j = .bl (f i j)) : OpS μ (rI0 g) rInt rInt rBl fun i j => .ret (f i j) := fun k F H c x y i j Q w hx hy q => ⟨i, j, hx, hy, q _ F H (ExtX.refl w.sub) w (h i j)⟩
theorem o_iiC {C : Int → Int → Prop} {g : Int → Int → V} {f : Int → Int → Int} (h : ∀ i j, g i j = .int (f i j)) : OpS μ (rI C g) rInt rInt rInt fun i j => .need (C i j) (.ret (f i j)) := fun k F H c x y i j Q w hx hy q => ⟨i, j, hx, hy, q.1, q.2 _ F H (ExtX.refl w.sub) w (h i j)⟩
theorem u_ii {g : Int → V} {f : Int → Int} (h : ∀ i, g i = .int (f i)) : UnS μ (rU g) rInt rInt fun i => .ret (f i) := fun k F H c x i Q w hx q => ⟨i, hx, q _ F H (ExtX.refl w.sub) w (h i)⟩
/-- == of plain values -/
structure ScR (R : Rp α) [DecidableEq α] : Prop where
  scal : ∀ {F F' : Hp} {x y : V} {a b : α}, R.r F x a → R.r F' y b → L2.scal x y = true ∧ decide (x = y) = decide (a = b)
theorem sc_int : ScR rInt := ⟨fun {_ _ _ _ a b} h k => by subst h k; exact ⟨rfl, by by_cases c : a = b; (· rw [c]; simp); (· rw [decide_eq_false c, decide_eq_false fun z => c (V.int.inj z)])⟩⟩
theorem sc_str : ScR rStr := ⟨fun {_ _ _ _ a b} h k => by subst h k; exact ⟨rfl, by by_cases c : a = b; (· rw [c]; simp); (· rw [decide_eq_false c, decide_eq_false fun z => c (V.str.inj z)])⟩⟩
theorem sc_bl : ScR rBl := ⟨fun {_ _ _ _ a b} h k => by subst h k; exact ⟨rfl, by by_cases c : a = b; (· rw [c]; simp); (· rw [decide_eq_false c, decide_eq_false fun z => c (V.bl.inj z)])⟩⟩
theorem o_eq [DecidableEq α] (s : ScR Ra) : OpS μ rEq Ra Ra rBl fun a b => .ret (decide (a = b)) := fun k F H c x y a b Q w hx hy q => by
  obtain ⟨h1, h2⟩ := s.scal hx hy
  exact ⟨h1, q _ F H (ExtX.refl w.sub) w (by rw [h2]; rfl)⟩
theorem o_ne [DecidableEq α] (s : ScR Ra) : OpS μ rNe Ra Ra rBl fun a b => .ret (!decide (a = b)) := fun k F H c x y a b Q w hx hy q => by
  obtain ⟨h1, h2⟩ := s.scal hx hy
  exact ⟨h1, q _ F H (ExtX.refl w.sub) w (by rw [h2]; rfl)⟩
/-- == of data, to any depth -/
structure DpR (K : PySem.W.Frag) (R : Rp α) (d : α → PyData) (n : Nat) : Prop where
  dp : ∀ {F : Hp} {v : V} {a : α}, R.r F v a → Dp K F v (d a)
  deep : ∀ a, (d a).depth ≤ n
theorem shaped_of {d : PyData} {n : Nat} (h : d.depth ≤ n) (hn : n ≤ 64) (l : d.canLay0 = true) : SeqAt.shaped d = true := by
  unfold SeqAt.shaped
  rw [l, decide_eq_true (Nat.le_trans h hn)]; rfl
mutual
theorem dp_same {K : PySem.W.Frag} {F H : Hp} (s : Same F H) : ∀ (d : PyData) (v : V), Dp K F v d → Dp K H v d
  | _, _, .non => .non
  | _, _, .bl b => .bl b
  | _, _, .int i => .int i
  | _, _, .str x => .str x
  | _, _, .lst h t => .lst (s.seq h) (dps_same s _ _ t)
  | _, _, .tup h t => .tup (same_seqT s h) (dps_same s _ _ t)
theorem dps_same {K : PySem.W.Frag} {F H : Hp} (s : Same F H) : ∀ (ds : List PyData) (vs : List V), DpAll K F vs ds → DpAll K H vs ds
  | _, _, .nil => .nil
  | _, _, .cons h t => .cons (dp_same s _ _ h) (dps_same s _ _ t)
end
theorem Dp.same {K : PySem.W.Frag} {F H : Hp} {v : V} {d : PyData} (s : Same F H) (h : Dp K F v d) : Dp K H v d := dp_same s d v h
theorem o_eqD {K : PySem.W.Frag} {da : α → PyData} {db : β → PyData} {i j : Nat} (hA : DpR K Ra da i) (hB : DpR K Rb db j) (hi : i ≤ 64 := by decide) (hj : j ≤ 64 := by decide) : OpS μ (rEqD K) Ra Rb rBl fun a b => .need ((da a).canLay0 = true ∧ (db b).canLay0 = true) (.ret (PyData.eqv (da a) (db b))) := fun k F H c x y a b Q w hx hy q =>
  ⟨_, _, Dp.same w.sub (hA.dp hx), Dp.same w.sub (hB.dp hy), shaped_of (hA.deep a) hi q.1.1, shaped_of (hB.deep b) hj q.1.2, q.2 _ F H (ExtX.refl w.sub) w rfl⟩
theorem o_neD {K : PySem.W.Frag} {da : α → PyData} {db : β → PyData} {i j : Nat} (hA : DpR K Ra da i) (hB : DpR K Rb db j) (hi : i ≤ 64 := by decide) (hj : j ≤ 64 := by decide) : OpS μ (rNeD K) Ra Rb rBl fun a b => .need ((da a).canLay0 = true ∧ (db b).canLay0 = true) (.ret (!PyData.eqv (da a) (db b))) := fun k F H c x y a b Q w hx hy q =>
  ⟨_, _, Dp.same w.sub (hA.dp hx), Dp.same w.sub (hB.dp hy), shaped_of (hA.deep a) hi q.1.1, shaped_of (hB.deep b) hj q.1.2, q.2 _ F H (ExtX.refl w.sub) w rfl⟩
/-! ### tests -/
theorem t_of {te : TE} {m : Γ → M Bool} (h : SE μ E rBl te m) : ST μ E (tTest te) m := fun k F H σ ρ c Q w e q => h k F H σ ρ c _ w e (wp_imp q fun b _ z v F' H' x w' r => ⟨b, r, z F' H' x w'⟩)
theorem t_b {te : TE} {m : Γ → M Bool} (h : SE μ E rBl te m) : ST μ E (tB te) m := fun k F H σ ρ c Q w e q => h k F H σ ρ c _ w e (wp_imp q fun b _ z v F' H' x w' r => ⟨b, r, z F' H' x w'⟩)
theorem BP.ext {k : Cn} {F H F1 H1 : Hp} {Q : Bool → Hp → Prop} {b : Bool} {c : Nat} (x : ExtX k.p F H F1 H1) (h : BP k F H Q b c) : BP k F1 H1 Q b c := fun F' H' y w => h F' H' (x.trans y) w
theorem t_not {tt : TT} {m : Γ → M Bool} (h : ST μ E tt m) : ST μ E (tNot tt) fun ρ => (m ρ).bind fun b => .ret (!b) := fun k F H σ ρ c Q w e q => h k F H σ ρ c _ w e (wp_imp q fun _ _ z F' H' x w' => z F' H' x w')
theorem t_and {tt tu : TT} {m n : Γ → M Bool} (h : ST μ E tt m) (h' : ST μ E tu n) : ST μ E (tAnd tt tu) fun ρ => (m ρ).bind fun b => .ifb b (n ρ) (.ret false) := fun k F H σ ρ c Q w e q => h k F H σ ρ c _ w e (wp_imp q fun b c1 z F' H' x w' => by
  cases b with
  | true => exact h' k F' H' σ ρ c1 Q w' (e.step x) (wp_imp z fun _ _ z => BP.ext x z)
  | false => exact z F' H' x w')
theorem t_or {tt tu : TT} {m n : Γ → M Bool} (h : ST μ E tt m) (h' : ST μ E tu n) : ST μ E (tOr tt tu) fun ρ => (m ρ).bind fun b => .ifb b (.ret true) (n ρ) := fun k F H σ ρ c Q w e q => h k F H σ ρ c _ w e (wp_imp q fun b c1 z F' H' x w' => by
  cases b with
  | false => exact h' k F' H' σ ρ c1 Q w' (e.step x) (wp_imp z fun _ _ z => BP.ext x z)
  | true => exact z F' H' x w')
theorem e_if {tt : TT} {ta tb : TE} {mt : Γ → M Bool} {ma mb : Γ → M α} (ht : ST μ E tt mt) (ha : SE μ E Ra ta ma) (hb : SE μ E Ra tb mb) : SE μ E Ra (tIf tt ta tb) fun ρ => (mt ρ).bind fun b => .ifb b (ma ρ) (mb ρ) := fun k F H σ ρ c Q w e q =>
  ht k F H σ ρ c _ w e (wp_imp q fun b c1 z F' H' x w' => by
    cases b with
    | true => exact ha k F' H' σ ρ c1 Q w' (e.step x) (wp_imp z fun _ _ z => VP.ext x z)
    | false => exact hb k F' H' σ ρ c1 Q w' (e.step x) (wp_imp z fun _ _ z => VP.ext x z))
theorem n_if {tt : TT} {ta tb : TE} {mt : Γ → M Bool} {ma mb : Γ → M (List α)} (ht : ST μ E tt mt) (ha : SN μ E Ra ta ma) (hb : SN μ E Ra tb mb) : SN μ E Ra (tIf tt ta tb) fun ρ => (mt ρ).bind fun b => .ifb b (ma ρ) (mb ρ) := fun k F H σ ρ c Q w e q =>
  ht k F H σ ρ c _ w e (wp_imp q fun b c1 z F' H' x w' => by
    cases b with
    | true => exact ha k F' H' σ ρ c1 Q w' (e.step x) (wp_imp z fun _ _ z => VN.ext x z)
    | false => exact hb k F' H' σ ρ c1 Q w' (e.step x) (wp_imp z fun _ _ z => VN.ext x z))
theorem e_and {ta tb : TE} {m n : Γ → M Bool} (h : SE μ E rBl ta m) (h' : SE μ E rBl tb n) : SE μ E rBl (tAndV ta tb) fun ρ => (m ρ).bind fun b => .ifb b (n ρ) (.ret false) := fun k F H σ ρ c Q w e q => h k F H σ ρ c _ w e (wp_imp q fun b c1 z v F' H' x w' r => by
  refine ⟨b, r, ?_⟩
  cases b with
  | true => exact h' k F' H' σ ρ c1 Q w' (e.step x) (wp_imp z fun _ _ z => VP.ext x z)
  | false => exact z _ F' H' x w' rfl)
theorem e_or {ta tb : TE} {m n : Γ → M Bool} (h : SE μ E rBl ta m) (h' : SE μ E rBl tb n) : SE μ E rBl (tOrV ta tb) fun ρ => (m ρ).bind fun b => .ifb b (.ret true) (n ρ) := fun k F H σ ρ c Q w e q => h k F H σ ρ c _ w e (wp_imp q fun b c1 z v F' H' x w' r => by
  refine ⟨b, r, ?_⟩
  cases b with
  | false => exact h' k F' H' σ ρ c1 Q w' (e.step x) (wp_imp z fun _ _ z => VP.ext x z)
  | true => exact z _ F' H' x w' rfl)
theorem e_not {ta : TE} {m : Γ → M Bool} (h : SE μ E rBl ta m) : SE μ E rBl (tNotV ta) fun ρ => (m ρ).bind fun b => .ret (!b) := fun k F H σ ρ c Q w e q => h k F H σ ρ c _ w e (wp_imp q fun b c1 z v F' H' x w' r => ⟨b, r, z _ F' H' x w' rfl⟩)
theorem e_chain {r r' : R2} {ta tb tc : TE} {ma : Γ → M α} {mb : Γ → M β} {mc : Γ → M γ} {f : α → β → M Bool} {f' : β → γ → M Bool} (ho : OpS μ r Ra Rb rBl f) (ho' : OpS μ r' Rb R rBl f') (ha : SE μ E Ra ta ma) (hb : SE μ E Rb tb mb) (hc : SE μ E R tc mc) :
    SE μ E rBl (tChain r r' ta tb tc) fun ρ => (ma ρ).bind fun a => (mb ρ).bind fun b => (f a b).bind fun k => .ifb k ((mc ρ).bind fun d => f' b d) (.ret false) := fun k F H σ ρ c Q w e h =>
  ha k F H σ ρ c _ w e (wp_imp h fun a c1 q v F1 H1 x1 w1 r1 => hb k F1 H1 σ ρ c1 _ w1 (e.step x1) (wp_imp q fun b c2 q v2 F2 H2 x2 w2 r2 =>
    ho k F2 H2 c2 v v2 a b _ w2 (Ra.st x2.fz r1) r2 (wp_imp q fun t c3 q v3 F3 H3 x3 w3 r3 => by
      refine ⟨t, r3, ?_⟩
      have x13 := (x1.trans x2).trans x3
      cases t with
      | true => exact hc k F3 H3 σ ρ c3 _ w3 (e.step x13) (wp_imp q fun d c4 q v4 F4 H4 x4 w4 r4 => ho' k F4 H4 c4 v2 v4 b d Q w4 (Rb.st (x3.fz.trans x4.fz) r2) r4 (wp_imp q fun _ _ z => VP.ext (x13.trans x4) z))
      | false => exact q _ F3 H3 x13 w3 rfl)))
theorem t_chain {r r' : R2} {ta tb tc : TE} {ma : Γ → M α} {mb : Γ → M β} {mc : Γ → M γ} {f : α → β → M Bool} {f' : β → γ → M Bool} (ho : OpS μ r Ra Rb rBl f) (ho' : OpS μ r' Rb R rBl f') (ha : SE μ E Ra ta ma) (hb : SE μ E Rb tb mb) (hc : SE μ E R tc mc) :
    ST μ E (tTest (tChain r r' ta tb tc)) fun ρ => (ma ρ).bind fun a => (mb ρ).bind fun b => (f a b).bind fun k => .ifb k ((mc ρ).bind fun d => f' b d) (.ret false) := t_of (e_chain ho ho' ha hb hc)
/-! ### rows of values, tuples, lists -/
theorem AP.ext {S : RA α} {k : Cn} {F H F1 H1 : Hp} {Q : List V → Hp → Prop} {b : α} {c : Nat} (x : ExtX k.p F H F1 H1) (h : AP k F H S Q b c) : AP k F1 H1 S Q b c := fun vs F' H' y w r => h vs F' H' (x.trans y) w r
theorem a_nil : SA μ E aNil tNil fun _ => .ret () := fun k F H σ ρ c Q w e q => q [] F H (ExtX.refl w.sub) w rfl
theorem a_cons {S : RA β} {ta : TE} {tb : TA} {ma : Γ → M α} {mb : Γ → M β} (ha : SE μ E Ra ta ma) (hb : SA μ E S tb mb) : SA μ E (aCons Ra S) (tCons ta tb) fun ρ => (ma ρ).bind fun a => (mb ρ).bind fun b => .ret (a, b) := fun k F H σ ρ c Q w e h =>
  ha k F H σ ρ c _ w e (wp_imp h fun a c1 q v F1 H1 x1 w1 r1 => hb k F1 H1 σ ρ c1 _ w1 (e.step x1) (wp_imp q fun b c2 q vs F2 H2 x2 w2 r2 => q _ F2 H2 (x1.trans x2) w2 ⟨v, vs, rfl, Ra.st x2.fz r1, r2⟩))
theorem le_n (n : Nat) (h : n ≤ 1000 := by decide) : n ≤ sizeLine := by rw [sizeLine_eq]; omega
theorem e_tup {K : PySem.W.Frag} {S : RA α} {ta : TA} {ma : Γ → M α} (ha : SA μ E S ta ma) (hn : S.n ≤ sizeLine) : SE μ E (rTx K S) (tTup ta) ma := fun k F H σ ρ c Q w e h =>
  ha k F H σ ρ c _ w e (wp_imp h fun a c1 q vs F1 H1 x1 w1 r1 => ⟨by rw [S.len r1]; exact hn, fun p n => by
    have x2 := ExtX.new (p := k.p) w1.sub n (.tup vs)
    exact q _ _ _ (x1.trans x2) (w1.new n _) ⟨p, vs, rfl, .of upd_same, S.st x2.fz r1⟩⟩)
/-- rows of one kind: as a list -/
structure HomR (R : Rp α) (S : RA β) (f : β → List α) : Prop where
  all : ∀ {F : Hp} {vs : List V} {b : β}, S.r F vs b → All2 (R.r F) vs (f b)
theorem hom_nil : HomR Ra aNil fun _ => [] := ⟨fun h => by subst h; exact .nil⟩
theorem hom_cons {S : RA β} {f : β → List α} (h : HomR Ra S f) : HomR Ra (aCons Ra S) fun b => b.1 :: f b.2 := ⟨fun ⟨v, ws, e, r, t⟩ => by subst e; exact .cons r (h.all t)⟩
theorem n_lst {S : RA β} {f : β → List α} {ta : TA} {ma : Γ → M β} (ho : HomR Ra S f) (ha : SA μ E S ta ma) (hn : S.n ≤ sizeLine) : SN μ E Ra (tLst ta) fun ρ => (ma ρ).bind fun b => .ret (f b) := fun k F H σ ρ c Q w e h =>
  ha k F H σ ρ c _ w e (wp_imp h fun a c1 q vs F1 H1 x1 w1 r1 => ⟨by rw [S.len r1]; exact hn, fun p n => by
    have x2 := ExtX.own (p := k.p) w1.sub n (.lst vs)
    have nH : H p = none := by
      cases z : H p with
      | none => rfl
      | some o => exact absurd n (x1.on p (by rw [z]; simp))
    exact q p vs _ _ (x1.trans x2) (w1.own n _) nH (w.h0 nH) upd_same (w1.sub.free n) (ho.all r1)⟩)
/-- a tuple of one kind -/
theorem e_tupH {K : PySem.W.Frag} {S : RA β} {f : β → List α} {ta : TA} {ma : Γ → M β} (ho : HomR Ra S f) (ha : SA μ E S ta ma) (hn : S.n ≤ sizeLine) : SE μ E (rTup K Ra) (tTup ta) fun ρ => (ma ρ).bind fun b => .ret (f b) := fun k F H σ ρ c Q w e h =>
  ha k F H σ ρ c _ w e (wp_imp h fun a c1 q vs F1 H1 x1 w1 r1 => ⟨by rw [S.len r1]; exact hn, fun p n => by
    have x2 := ExtX.new (p := k.p) w1.sub n (.tup vs)
    exact q _ _ _ (x1.trans x2) (w1.new n _) ⟨p, vs, rfl, .of upd_same, (ho.all r1).imp fun _ _ g => Ra.st x2.fz g⟩⟩)
theorem sql_same {K : PySem.W.Frag} {F : Hp} {p : Addr} {vs : List V} (h : F p = some (.lst vs)) : SqL K F p vs := .of h
/-- xs[i] -/
theorem o_ixL {K : PySem.W.Frag} : OpS μ (rIxL K) (rLs Ra) rInt Ra fun xs i => .the (atI xs i) := fun k F H c x y xs i Q w ⟨p, vs, ex, hp, al⟩ hy ⟨a, ea, q⟩ => by
  subst ex
  obtain ⟨v, hv, r⟩ : ∃ v, atI vs i = some v ∧ Ra.r F v a := by
    unfold atI at ea ⊢
    rw [al.len]
    cases z : ixN xs.length i with
    | none => rw [z] at ea; cases ea
    | some j => rw [z] at ea; exact al.get ea
  exact ⟨p, vs, i, v, rfl, hy, .of (w.sub _ _ hp), hv, q v F H (ExtX.refl w.sub) w r⟩
theorem o_ixT {K : PySem.W.Frag} : OpS μ (rIxT K) (rTup K Ra) rInt Ra fun xs i => .the (atI xs i) := fun k F H c x y xs i Q w ⟨p, vs, ex, hp, al⟩ hy ⟨a, ea, q⟩ => by
  subst ex
  obtain ⟨v, hv, r⟩ : ∃ v, atI vs i = some v ∧ Ra.r F v a := by
    unfold atI at ea ⊢
    rw [al.len]
    cases z : ixN xs.length i with
    | none => rw [z] at ea; cases ea
    | some j => rw [z] at ea; exact al.get ea
  exact ⟨p, vs, i, v, rfl, hy, same_seqT w.sub hp, hv, q v F H (ExtX.refl w.sub) w r⟩
/-- a place in a row of several kinds -/
structure RGet (S : RA α) (i : Nat) (R : Rp β) (g : α → β) : Prop where
  get : ∀ {F : Hp} {vs : List V} {a : α}, S.r F vs a → ∃ v, vs[i]? = some v ∧ R.r F v (g a)
theorem rget0 {S : RA β} : RGet (aCons Ra S) 0 Ra (·.1) := ⟨fun ⟨v, ws, e, r, _⟩ => ⟨v, by rw [e]; rfl, r⟩⟩
theorem rgetS {S : RA β} {i : Nat} {R : Rp γ} {g : β → γ} (h : RGet S i R g) : RGet (aCons Ra S) (i + 1) R (fun a => g a.2) := ⟨fun ⟨v, ws, e, _, t⟩ => by obtain ⟨u, q, r⟩ := h.get t; exact ⟨u, by rw [e]; simpa using q, r⟩⟩
theorem e_ixX {K : PySem.W.Frag} {S : RA α} {i : Nat} {g : α → β} {ta : TE} {ma : Γ → M α} (hg : RGet S i Rb g) (ha : SE μ E (rTx K S) ta ma) : SE μ E Rb (tOp (rIxT K) ta (tC (.int (i : Int)))) fun ρ => (ma ρ).bind fun a => .ret (g a) := fun k F H σ ρ c Q w e h =>
  ha k F H σ ρ c _ w e (wp_imp h fun a c1 q v F1 H1 x1 w1 ⟨p, vs, ex, hp, r⟩ => by
    obtain ⟨u, hu, ru⟩ := hg.get r
    exact ⟨p, vs, _, u, ex, rfl, same_seqT w1.sub hp, atI_nat hu, q u F1 H1 x1 w1 ru⟩)
/-! ### calls -/
theorem e_ca {r : List V → Hp → VK → Prop} {S : RA α} {ta : TA} {ma : Γ → M α} {mf : α → M γ} (hc : CaS μ r S R mf) (ha : SA μ E S ta ma) : SE μ E R (tCB r ta) fun ρ => (ma ρ).bind mf := fun k F H σ ρ c Q w e h =>
  ha k F H σ ρ c _ w e (wp_imp h fun a c1 q vs F1 H1 x1 w1 r1 => hc k F1 H1 c1 vs a Q w1 r1 (wp_imp q fun _ _ z => VP.ext x1 z))
theorem n_ca {r : List V → Hp → VK → Prop} {S : RA α} {ta : TA} {ma : Γ → M α} {mf : α → M (List γ)} (hc : CaN μ r S R mf) (ha : SA μ E S ta ma) : SN μ E R (tCB r ta) fun ρ => (ma ρ).bind mf := fun k F H σ ρ c Q w e h =>
  ha k F H σ ρ c _ w e (wp_imp h fun a c1 q vs F1 H1 x1 w1 r1 => hc k F1 H1 c1 vs a Q w1 r1 (wp_imp q fun _ _ z => VN.ext x1 z))
/-- the promise: as the plain program m says; nothing is raised -/
def spOf (S : RA α) (R : Rp β) (m : α → M β) : Sp := fun vs H Q _ => ∃ F a, Same F H ∧ S.r F vs a ∧
  (m a).wp 0 (fun b _ => ∀ v F' H', ExtX none F H F' H' → R.r F' v b → Q v H') (fun _ => False)
/-- the same of a def whose first parameter are the dice -/
def spOfD (S : RA α) (R : Rp β) (m : α → M β) : Sp := fun vs H Q _ => ∃ F p ws a c, vs = .ref p :: ws ∧ Same F H ∧ F p = none ∧ Dice p H c ∧ S.r F ws a ∧
  (m a).wp c (fun b c' => ∀ v F' H', ExtX (some p) F H F' H' → F' p = none → Dice p H' c' → R.r F' v b → Q v H') (fun _ => False)
theorem XP.no {k : Cn} {F H : Hp} {c : Nat} (w : Wo k F H c) {e : Er} (h : XP md0 k e) : False := h .none none F H w.ext trivial
theorem e_call {S : RA α} {ta : TA} {ma : Γ → M α} {m : α → M γ} (ha : SA md0 E S ta ma) : SE md0 E R (tCall (spOf S R m) [] E0 ta) fun ρ => (ma ρ).bind fun a => (m a).still := fun k F H σ ρ c Q w e h =>
  ha k F H σ ρ c _ w e (wp_imp h fun a c1 q vs F1 H1 x1 w1 r1 => by
    show spOf S R m (vs ++ []) H1 Q E0
    rw [List.append_nil]
    exact ⟨F1, a, w1.sub, r1, (m a).mono 0 (fun b _ z v F' H' x r => z v F' H' (x1.trans (w1.call x).1) (w1.call x).2 r) (fun _ z => XP.no w1 z) q⟩)
theorem Wo.callD {k : Cn} {F H F' H' : Hp} {c c' : Nat} {p : Addr} (w : Wo k F H c) (e : k.p = some p) (x : ExtX (some p) F H F' H') (f : F' p = none) (d : Dice p H' c') : ExtX k.p F H F' H' ∧ Wo k F' H' c' := by
  rw [← e] at x
  refine ⟨x, x.sub, w.ext.trans x, fun a ea => ?_⟩
  obtain rfl : p = a := Option.some.inj (e.symm.trans ea)
  exact ⟨f, (w.dice p e).2.1, d⟩
theorem e_callD {S : RA α} {ta : TA} {ma : Γ → M α} {m : α → M γ} {i : Nat} {g : Γ → Unit} (hi : GetS E i sDice g) (ha : SA md0 E S ta ma) : SE md0 E R (tCall (spOfD S R m) [] E0 (tCons (tVar i) ta)) fun ρ => (ma ρ).bind m := fun k F H σ ρ c Q w e h => by
  obtain ⟨o, h1, p, rfl, hp⟩ := hi.get e.r
  refine ⟨.ref p, h1, ha k F H σ ρ c _ w e (wp_imp h fun a c1 q vs F1 H1 x1 w1 r1 => ?_)⟩
  show spOfD S R m ((.ref p :: vs) ++ []) H1 Q E0
  rw [List.append_nil]
  obtain ⟨d1, _, d2⟩ := w1.dice p hp
  exact ⟨F1, p, vs, a, c1, rfl, w1.sub, d1, d2, r1, (m a).mono c1 (fun b c' z v F' H' x f d r => z v F' H' (x1.trans (w1.callD hp x f d).1) (w1.callD hp x f d).2 r)
    (fun _ z => XP.no w1 z) q⟩
end
end PF

set_option Elab.async false
set_option linter.all false
set_option maxRecDepth 100000
set_option maxHeartbeats 4000000
namespace PF
open PySem PySem.Spec PyProof.Rows L2 SlX
/-! ### statements -/
inductive Ct (Γ Δ β : Type) where
  | nx (ρ : Γ)
  | rt (b : β)
  | bk (d : Δ)
  | ct (d : Δ)
namespace M
variable {Γ Γ' Δ α β : Type}
def thnK (f : Γ → M (Ct Γ' Δ β)) : Ct Γ Δ β → M (Ct Γ' Δ β)
  | .nx ρ => f ρ
  | .rt b => .ret (.rt b)
  | .bk d => .ret (.bk d)
  | .ct d => .ret (.ct d)
def thn (m : M (Ct Γ Δ β)) (f : Γ → M (Ct Γ' Δ β)) : M (Ct Γ' Δ β) := m.bind (thnK f)
def forK (f : Γ → M (Ct Γ Δ β)) : Ct Γ Γ β → M (Ct Γ Δ β)
  | .nx ρ => f ρ
  | .ct ρ => f ρ
  | .bk ρ => .ret (.nx ρ)
  | .rt b => .ret (.rt b)
def forM0 : List α → (α → Γ → M (Ct Γ Γ β)) → Γ → M (Ct Γ Δ β)
  | [], _, ρ => .ret (.nx ρ)
  | x :: xs, f, ρ => (f x ρ).bind (forK fun ρ' => forM0 xs f ρ')
theorem forM_ex {Γ Δ α β : Type} : ∃ g : List α → (α → Γ → M (Ct Γ Γ β)) → Γ → M (Ct Γ Δ β), (∀ f ρ, g [] f ρ = .ret (.nx ρ)) ∧ ∀ x xs f ρ, g (x :: xs) f ρ = (f x ρ).bind (forK fun ρ' => g xs f ρ') := ⟨forM0, fun _ _ => rfl, fun _ _ _ _ => rfl⟩
/-- not to be reckoned by the kernel -/
noncomputable def forM : List α → (α → Γ → M (Ct Γ Γ β)) → Γ → M (Ct Γ Δ β) := Classical.choose forM_ex
theorem forM_nil {f : α → Γ → M (Ct Γ Γ β)} {ρ : Γ} : forM (Δ := Δ) [] f ρ = .ret (.nx ρ) := (Classical.choose_spec (forM_ex (Γ := Γ) (Δ := Δ) (α := α) (β := β))).1 f ρ
theorem forM_cons {x : α} {xs : List α} {f : α → Γ → M (Ct Γ Γ β)} {ρ : Γ} : forM (Δ := Δ) (x :: xs) f ρ = (f x ρ).bind (forK fun ρ' => forM xs f ρ') := (Classical.choose_spec (forM_ex (Γ := Γ) (Δ := Δ) (α := α) (β := β))).2 x xs f ρ
def none {α : Type} : M α := ⟨fun _ _ _ => False, fun _ _ _ _ _ _ _ k => k⟩
def whileN (t : Γ → M Bool) (f : Γ → M (Ct Γ Γ β)) : Nat → Γ → M (Ct Γ Δ β)
  | 0, _ => M.none
  | n + 1, ρ => (t ρ).bind fun b => .ifb b ((f ρ).bind (forK fun ρ' => whileN t f n ρ')) (.ret (.nx ρ))
def whileM (t : Γ → M Bool) (f : Γ → M (Ct Γ Γ β)) (ρ : Γ) : M (Ct Γ Δ β) := ⟨fun c Q X => ∃ n, (whileN (Δ := Δ) t f n ρ).wp c Q X, fun c _ _ _ _ h x ⟨n, k⟩ => ⟨n, (whileN t f n ρ).mono c h x k⟩⟩
def lcM0 : List α → (α → M (Option β)) → M (List β)
  | [], _ => .ret []
  | x :: xs, f => (f x).bind fun o => (lcM0 xs f).bind fun ys => .ret (o.toList ++ ys)
theorem lcM_ex {α β : Type} : ∃ g : List α → (α → M (Option β)) → M (List β), (∀ f, g [] f = .ret []) ∧ ∀ x xs f, g (x :: xs) f = (f x).bind fun o => (g xs f).bind fun ys => .ret (o.toList ++ ys) := ⟨lcM0, fun _ => rfl, fun _ _ _ => rfl⟩
noncomputable def lcM : List α → (α → M (Option β)) → M (List β) := Classical.choose lcM_ex
theorem lcM_nil {f : α → M (Option β)} : lcM [] f = .ret [] := (Classical.choose_spec (lcM_ex (α := α) (β := β))).1 f
theorem lcM_cons {x : α} {xs : List α} {f : α → M (Option β)} : lcM (x :: xs) f = (f x).bind fun o => (lcM xs f).bind fun ys => .ret (o.toList ++ ys) := (Classical.choose_spec (lcM_ex (α := α) (β := β))).2 x xs f
def finK : Ct Γ Unit β → M β
  | .rt b => .ret b
  | _ => M.none
def finNK : Ct Γ Unit Unit → M Unit
  | .rt b => .ret b
  | .nx _ => .ret ()
  | _ => M.none
/-- a def's value -/
def fin (m : M (Ct Γ Unit β)) : M β := m.bind finK
/-- .. of a def that gives None -/
def finN (m : M (Ct Γ Unit Unit)) : M Unit := m.bind finNK
end M
def SP {Γ Δ β : Type} (k : Cn) (F0 : Hp) (E' : EV Γ) (El : EV Δ) (R : Rp β) (D : Ends) : Ct Γ Δ β → Nat → Prop := fun t c' => match t with
  | .nx ρ => ∀ F H σ, Same F0 F → Wo k F H c' → EI k E' F H σ ρ → D.nx σ H
  | .rt b => ∀ v F H, Wo k F H c' → R.r F v b → D.rt v H
  | .bk d => ∀ F H σ, Same F0 F → Wo k F H c' → EI k El F H σ d → D.bk σ H
  | .ct d => ∀ F H σ, Same F0 F → Wo k F H c' → EI k El F H σ d → D.ct σ H
theorem SP.fz {Γ Δ β : Type} {k : Cn} {F0 F1 : Hp} {E' : EV Γ} {El : EV Δ} {R : Rp β} {D : Ends} {t : Ct Γ Δ β} {c : Nat} (s : Same F0 F1) (h : SP k F0 E' El R D t c) : SP k F1 E' El R D t c := by
  cases t with
  | nx ρ => exact fun F H σ z => h F H σ (s.trans z)
  | rt b => exact h
  | bk ρ => exact fun F H σ z => h F H σ (s.trans z)
  | ct ρ => exact fun F H σ z => h F H σ (s.trans z)
def SS {Γ Γ' Δ β : Type} (μ : Md) (E : EV Γ) (E' : EV Γ') (El : EV Δ) (R : Rp β) (ts : TS) (m : Γ → M (Ct Γ' Δ β)) : Prop :=
  ∀ (k : Cn) (F H : Hp) (σ : L2.St) (ρ : Γ) (c : Nat) (D : Ends), Wo k F H c → EI k E F H σ ρ → (m ρ).wp c (SP k F E' El R D) (XP μ k) → ts D σ H
/-- a target -/
def SG {Γ Γ' α : Type} (E : EV Γ) (R : Rp α) (g : TG) (E' : EV Γ') (put : Γ → α → Γ') : Prop :=
  ∀ (k : Cn) (F H : Hp) (σ : L2.St) (ρ : Γ) (c : Nat) (v : V) (a : α) (Q : L2.St → Hp → Prop), Wo k F H c → EI k E F H σ ρ → R.r F v a → (∀ σ', EI k E' F H σ' (put ρ a) → Q σ' H) → g v σ H Q
def SGs {Γ Γ' α : Type} (E : EV Γ) (S : RA α) (g : TGs) (E' : EV Γ') (put : Γ → α → Γ') : Prop :=
  ∀ (k : Cn) (F H : Hp) (σ : L2.St) (ρ : Γ) (c : Nat) (vs : List V) (a : α) (Q : L2.St → Hp → Prop), Wo k F H c → EI k E F H σ ρ → S.r F vs a → (∀ σ', EI k E' F H σ' (put ρ a) → Q σ' H) → g vs σ H Q
section
variable {Γ Γ' Γ'' Δ Δ' α β γ δ : Type} {μ : Md} {E : EV Γ} {E' : EV Γ'} {E'' : EV Γ''} {El : EV Δ} {El' : EV Δ'} {Ra : Rp α} {Rb : Rp β} {R : Rp γ}
theorem g_name {i : Nat} {put : Γ → α → Γ'} (h : PutS E i (sVal Ra) E' put) : SG E Ra (gName i) E' put := fun k F H σ ρ c v a Q w e r q =>
  q _ ⟨h.put e.r ⟨v, rfl, r⟩, h.nd e.nd fun _ z => nomatch z⟩
theorem gs_nil : SGs E aNil gNil E fun ρ _ => ρ := fun k F H σ ρ c vs a Q w e r q => ⟨r, q σ e⟩
theorem gs_cons {S : RA β} {g : TG} {gs : TGs} {put : Γ → α → Γ'} {put' : Γ' → β → Γ''} (h : SG E Ra g E' put) (hs : SGs E' S gs E'' put') : SGs E (aCons Ra S) (gCons g gs) E'' fun ρ a => put' (put ρ a.1) a.2 := fun k F H σ ρ c vs a Q w e ⟨v, ws, ev, r, t⟩ q =>
  ⟨v, ws, ev, h k F H σ ρ c v a.1 _ w e r fun σ' e' => hs k F H σ' _ c ws a.2 Q w e' t q⟩
theorem g_tup {K : PySem.W.Frag} {S : RA α} {n : Nat} {gs : TGs} {put : Γ → α → Γ'} (h : SGs E S gs E' put) (hn : S.n = n) : SG E (rTx K S) (gTup K n gs) E' put := fun k F H σ ρ c v a Q w e ⟨p, vs, ev, hp, r⟩ q =>
  ⟨p, vs, ev, same_seqT w.sub hp, (S.len r).trans hn, h k F H σ ρ c vs a Q w e r q⟩
/-- x = e -/
theorem s_asg {te : TE} {m : Γ → M α} {g : TG} {put : Γ → α → Γ'} (he : SE μ E Ra te m) (hg : SG E Ra g E' put) : SS μ E E' El R (tAsg te g) fun ρ => (m ρ).bind fun a => .ret (.nx (put ρ a)) := fun k F H σ ρ c D w e h =>
  he k F H σ ρ c _ w e (wp_imp h fun a c1 q v F1 H1 x1 w1 r1 => hg k F1 H1 σ ρ c1 v a _ w1 (e.step x1) r1 fun σ' e' => q F1 H1 σ' x1.fz w1 e')
/-- x = a new list, one's own -/
theorem s_new {te : TE} {m : Γ → M (List α)} {i : Nat} {put : Γ → List α → Γ'} (he : SN μ E Ra te m) (hp : PutS E i (sOwn Ra) E' put) : SS μ E E' El R (tAsg te (gName i)) fun ρ => (m ρ).bind fun a => .ret (.nx (put ρ a)) := fun k F H σ ρ c D w e h =>
  he k F H σ ρ c _ w e (wp_imp h fun a c1 q D' vs F1 H1 x1 w1 n n0 hD f r1 => by
    have e1 := e.step x1
    exact q F1 H1 _ x1.fz w1 ⟨hp.put e1.r ⟨D', vs, rfl, hD, r1, f, n0, w1.np n0⟩, hp.nd e1.nd fun D'' ed z => by
      cases ed
      exact absurd n (E.has e.r z).1⟩)
theorem s_nil : SS μ E E El R tNext fun ρ => .ret (.nx ρ) := fun k F H σ ρ c D w e h => h F H σ (Same.refl F) w e
theorem s_brk : SS μ E E' E R tBreak fun ρ => .ret (.bk ρ) := fun k F H σ ρ c D w e h => h F H σ (Same.refl F) w e
theorem s_cnt : SS μ E E' E R tCont fun ρ => .ret (.ct ρ) := fun k F H σ ρ c D w e h => h F H σ (Same.refl F) w e
theorem s_seq {t u : TS} {m : Γ → M (Ct Γ' Δ γ)} {n : Γ' → M (Ct Γ'' Δ γ)} (h : SS μ E E' El R t m) (h' : SS μ E' E'' El R u n) : SS μ E E'' El R (tSeq t u) fun ρ => (m ρ).thn n := fun k F H σ ρ c D w e q =>
  h k F H σ ρ c _ w e (wp_imp q fun t c1 z => by
    cases t with
    | nx ρ' => exact fun F1 H1 σ1 s1 w1 e1 => h' k F1 H1 σ1 ρ' c1 D w1 e1 (wp_imp z fun _ _ z => z.fz s1)
    | rt b => exact z
    | bk d => exact z
    | ct d => exact z)
theorem s_if {tt : TT} {t u : TS} {mt : Γ → M Bool} {m n : Γ → M (Ct Γ' Δ γ)} (ht : ST μ E tt mt) (h : SS μ E E' El R t m) (h' : SS μ E E' El R u n) : SS μ E E' El R (tIfS tt t u) fun ρ => (mt ρ).bind fun b => .ifb b (m ρ) (n ρ) := fun k F H σ ρ c D w e q =>
  ht k F H σ ρ c _ w e (wp_imp q fun b c1 z F1 H1 x1 w1 => by
    cases b with
    | true => exact h k F1 H1 σ ρ c1 D w1 (e.step x1) (wp_imp z fun _ _ z => z.fz x1.fz)
    | false => exact h' k F1 H1 σ ρ c1 D w1 (e.step x1) (wp_imp z fun _ _ z => z.fz x1.fz))
theorem s_ret {te : TE} {m : Γ → M γ} (he : SE μ E R te m) : SS μ E E' El R (tRet te) fun ρ => (m ρ).bind fun a => .ret (.rt a) := fun k F H σ ρ c D w e h =>
  he k F H σ ρ c _ w e (wp_imp h fun a c1 q v F1 H1 x1 w1 r1 => q v F1 H1 w1 r1)
theorem s_retN : SS μ E E' El rNon tRetN fun ρ => .ret (.rt ()) := fun k F H σ ρ c D w e h => h .non F H w rfl
theorem s_drop {te : TE} {m : Γ → M α} (he : SE μ E Ra te m) : SS μ E E El R (tDrop te) fun ρ => (m ρ).bind fun _ => .ret (.nx ρ) := fun k F H σ ρ c D w e h =>
  he k F H σ ρ c _ w e (wp_imp h fun a c1 q v F1 H1 x1 w1 r1 => q F1 H1 σ x1.fz w1 (e.step x1))
/-- a step of the proof alone: what the slots are taken for -/
def Wk (E : EV Γ) (E' : EV Γ') (f : Γ → Γ') : Prop := ∀ (k : Cn) (F H : Hp) (σ : L2.St) (ρ : Γ) (c : Nat), Wo k F H c → EI k E F H σ ρ → ∃ F', Same F F' ∧ Wo k F' H c ∧ EI k E' F' H σ (f ρ)
theorem s_pre {t : TS} {f : Γ → Γ'} {m : Γ' → M (Ct Γ'' Δ γ)} (w : Wk E E' f) (h : SS μ E' E'' El R t m) : SS μ E E'' El R t fun ρ => m (f ρ) := fun k F H σ ρ c D wo e q => by
  obtain ⟨F', s', w', e'⟩ := w k F H σ ρ c wo e
  exact h k F' H σ (f ρ) c D w' e' (wp_imp q fun _ _ z => z.fz s')
theorem s_post {t : TS} {f : Γ' → Γ''} {m : Γ → M (Ct Γ' Δ γ)} (h : SS μ E E' El R t m) (wk : Wk E' E'' f) : SS μ E E'' El R t fun ρ => (m ρ).thn fun ρ' => .ret (.nx (f ρ')) := fun k F H σ ρ c D w e q =>
  h k F H σ ρ c D w e (wp_imp q fun t c1 z => by
    cases t with
    | nx ρ' =>
      intro F1 H1 σ1 s1 w1 e1
      obtain ⟨F', s', w', e'⟩ := wk k F1 H1 σ1 ρ' c1 w1 e1
      exact z F' H1 σ1 (s1.trans s') w' e'
    | rt b => exact z
    | bk d => exact z
    | ct d => exact z)
theorem wk_comp {f : Γ → Γ'} {g : Γ' → Γ''} (h : Wk E E' f) (h' : Wk E' E'' g) : Wk E E'' fun ρ => g (f ρ) := fun k F H σ ρ c w e => by
  obtain ⟨F1, s1, w1, e1⟩ := h k F H σ ρ c w e
  obtain ⟨F2, s2, w2, e2⟩ := h' k F1 H σ _ c w1 e1
  exact ⟨F2, s1.trans s2, w2, e2⟩
/-- slots forgotten -/
structure Fg (E : EV Γ) (E' : EV Γ') (f : Γ → Γ') : Prop where
  r : ∀ {p : Option Addr} {H0 F H : Hp} {σ : L2.St} {ρ : Γ}, E.r p H0 F H σ ρ → E'.r p H0 F H σ (f ρ)
  ow : ∀ σ, (E'.owns σ).Sublist (E.owns σ)
theorem fg_nil : Fg eNil eNil id := ⟨id, fun _ => List.Sublist.refl _⟩
theorem fg_keep {S : SR α} {f : Γ → Γ'} (h : Fg E E' f) : Fg (eCons S E) (eCons S E') fun ρ => (ρ.1, f ρ.2) := ⟨fun ⟨o, τ, e, r, t⟩ => ⟨o, τ, e, r, h.r t⟩, fun σ => by
  cases σ with
  | nil => exact List.Sublist.refl _
  | cons o τ => exact List.Sublist.append (List.Sublist.refl _) (h.ow τ)⟩
theorem fg_un {S : SR α} {f : Γ → Γ'} (h : Fg E E' f) : Fg (eCons S E) (eCons sUn E') fun ρ => ((), f ρ.2) := ⟨fun ⟨o, τ, e, r, t⟩ => ⟨o, τ, e, trivial, h.r t⟩, fun σ => by
  cases σ with
  | nil => exact List.Sublist.refl _
  | cons o τ => exact (h.ow τ).trans (List.sublist_append_right _ _)⟩
theorem wk_fg {f : Γ → Γ'} (h : Fg E E' f) : Wk E E' f := fun k F H σ ρ c w e => ⟨F, Same.refl F, w, h.r e.r, e.nd.sublist (h.ow σ)⟩
/-- a list of one's own in slot i is let go -/
structure FzS (E : EV Γ) (i : Nat) (R : Rp α) (E' : EV Γ') (f : Γ → Γ') : Prop where
  get : ∀ {p : Option Addr} {H0 F H : Hp} {σ : L2.St} {ρ : Γ}, E.r p H0 F H σ ρ → ∃ D vs, σ[i]? = some (some (.ref D)) ∧ H D = some (.lst vs) ∧ F D = none ∧ H0 D = none ∧ D ∈ E.owns σ
  put : ∀ {p : Option Addr} {H0 F H : Hp} {σ : L2.St} {ρ : Γ} {D : Addr} {vs : List V}, E.r p H0 F H σ ρ → (E.owns σ).Nodup → σ[i]? = some (some (.ref D)) → H D = some (.lst vs) → Same F (upd F D (.lst vs)) → E'.r p H0 (upd F D (.lst vs)) H σ (f ρ)
  ow : ∀ σ, (E'.owns σ).Sublist (E.owns σ)
theorem fz0 : FzS (eCons (sOwn Ra) E) 0 Ra (eCons (sVal (rLs Ra)) E) id where
  get := fun ⟨o, τ, e, ⟨D, vs, e2, h, t, n1, n2, n3⟩, _⟩ => ⟨D, vs, by rw [e, e2]; rfl, h, n1, n2, by rw [e, e2]; exact List.mem_cons_self⟩
  put := fun {p H0 F H σ ρ D vs} ⟨o, τ, e, ⟨D', vs', e2, h, t, n1, n2, n3⟩, q⟩ n hi hD s => by
    subst e e2
    obtain rfl : D' = D := by
      have hi' : some (some (V.ref D')) = some (some (V.ref D)) := hi
      cases hi'; rfl
    rw [h] at hD
    obtain rfl : vs' = vs := by cases hD; rfl
    exact ⟨_, τ, rfl, ⟨_, rfl, D', vs', rfl, upd_same, t.imp fun _ _ g => Ra.st s g⟩, E.fz s (List.nodup_cons.mp n).1 q⟩
  ow := fun σ => by
    cases σ with
    | nil => exact List.Sublist.refl _
    | cons o τ => exact List.sublist_append_right _ _
theorem fzS {S : SR β} {i : Nat} {f : Γ → Γ'} (h : FzS E i Ra E' f) : FzS (eCons S E) (i + 1) Ra (eCons S E') fun ρ => (ρ.1, f ρ.2) where
  get := fun ⟨o, τ, e, _, q⟩ => by
    obtain ⟨D, vs, h1, h2, h3, h4, h5⟩ := h.get q
    exact ⟨D, vs, by rw [e]; simpa using h1, h2, h3, h4, by rw [e]; exact List.mem_append_right _ h5⟩
  put := fun {p H0 F H σ ρ D vs} ⟨o, τ, e, t, q⟩ n hi hD s => by
    subst e
    obtain ⟨n1, n2, n3⟩ := List.nodup_append.mp n
    have hi' : τ[i]? = some (some (.ref D)) := by simpa using hi
    obtain ⟨D', vs', h1, h2, _, _, h4⟩ := h.get q
    rw [hi'] at h1
    obtain rfl : D = D' := by cases h1; rfl
    exact ⟨o, τ, rfl, S.fz s (fun z => n3 D (by rw [z]; simp) D h4 rfl) t, h.put q n2 hi' hD s⟩
  ow := fun σ => by
    cases σ with
    | nil => exact List.Sublist.refl _
    | cons o τ => exact List.Sublist.append (List.Sublist.refl _) (h.ow τ)
theorem wk_fz {i : Nat} {f : Γ → Γ'} (h : FzS E i Ra E' f) : Wk E E' f := fun k F H σ ρ c w e => by
  obtain ⟨D, vs, h1, h2, h3, h4, _⟩ := h.get e.r
  obtain ⟨s, w2⟩ := w.fz h4 h3 h2
  exact ⟨_, s, w2, h.put e.r e.nd h1 h2 s, e.nd.sublist (h.ow σ)⟩
/-! ### loops -/
theorem s_for {wi : TI} {g : TG} {tb : TS} {ml : Γ → M (List α)} {put : Γ → α → Γ'} {mb : Γ' → M (Ct Γ Γ γ)} (hi : SI μ E Ra wi ml) (hg : SG E Ra g E' put) (hb : SS μ E' E E R tb mb) :
    SS μ E E El R (tFor wi g tb) fun ρ => (ml ρ).bind fun xs => M.forM xs (fun a ρ => mb (put ρ a)) ρ := fun k F H σ ρ c D w e h =>
  hi k F H σ ρ c _ w e (wp_imp h fun xs c1 q J F1 H1 x1 w1 wk => by
    refine ⟨fun i n σ' H' => n = xs.length - i ∧ i ≤ xs.length ∧ ∃ F' ρ' c', Same F1 F' ∧ Wo k F' H' c' ∧ EI k E F' H' σ' ρ' ∧ (M.forM (Δ := Δ) (xs.drop i) (fun a ρ => mb (put ρ a)) ρ').wp c' (SP k F1 E El R D) (XP μ k),
      ⟨xs.length, by simp, Nat.zero_le _, F1, ρ, c1, Same.refl _, w1, e.step x1, wp_imp q fun _ _ z => z.fz x1.fz⟩, ?_⟩
    rintro i n σ' H' ⟨rfl, hi, F', ρ', c', sF, w', e', q'⟩
    obtain ⟨go, stop⟩ := wk i F' H' sF w'.sub
    by_cases hlt : i < xs.length
    · obtain ⟨g1, g2⟩ := go _ (List.getElem?_eq_getElem hlt)
      have ed : xs.drop i = xs[i] :: xs.drop (i + 1) := List.drop_eq_getElem_cons hlt
      rw [ed, M.forM_cons] at q'
      refine .inr ⟨g1, fun σ2 H2 => ∃ F2 ρ2 c2, Same F1 F2 ∧ Wo k F2 H2 c2 ∧ EI k E F2 H2 σ2 ρ2 ∧ (M.forM (Δ := Δ) (xs.drop (i + 1)) (fun a ρ => mb (put ρ a)) ρ2).wp c2 (SP k F1 E El R D) (XP μ k),
        fun σ2 H2 z => ⟨xs.length - (i + 1), by omega, rfl, hlt, z⟩, fun x H2 y => ?_⟩
      obtain ⟨F2, x2, r2⟩ := g2 x H2 y
      obtain ⟨x2', w2⟩ := w'.call x2
      have s12 : Same F1 F2 := sF.trans x2.fz
      refine hg k F2 H2 σ' ρ' c' x _ _ w2 (e'.step x2') r2 fun σ3 e3 => ?_
      refine hb k F2 H2 σ3 _ c' _ w2 e3 ((mb _).mono c' (fun t c3 z => ?_) (fun _ z => z) q')
      cases t with
      | nx ρ4 => exact fun F4 H4 σ4 s4 w4 e4 => ⟨F4, ρ4, c3, s12.trans s4, w4, e4, z⟩
      | ct ρ4 => exact fun F4 H4 σ4 s4 w4 e4 => ⟨F4, ρ4, c3, s12.trans s4, w4, e4, z⟩
      | bk ρ4 => exact fun F4 H4 σ4 s4 w4 e4 => z F4 H4 σ4 (s12.trans s4) w4 e4
      | rt b => exact fun v F4 H4 w4 r4 => z v F4 H4 w4 r4
    · have e0 : i = xs.length := by omega
      subst e0
      rw [List.drop_length, M.forM_nil] at q'
      exact .inl ⟨stop (Nat.le_refl _), q' F' H' σ' sF w' e'⟩)
theorem s_while {tt : TT} {tb : TS} {mt : Γ → M Bool} {mb : Γ → M (Ct Γ Γ γ)} (ht : ST μ E tt mt) (hb : SS μ E E E R tb mb) : SS μ E E El R (tWhile tt tb) fun ρ => M.whileM mt mb ρ := fun k F H σ ρ c D w e ⟨n, h⟩ => by
  refine ⟨fun n σ' H' => ∃ F' ρ' c', Same F F' ∧ Wo k F' H' c' ∧ EI k E F' H' σ' ρ' ∧ (M.whileN (Δ := Δ) mt mb n ρ').wp c' (SP k F E El R D) (XP μ k), ⟨n, F, ρ, c, Same.refl _, w, e, h⟩, ?_⟩
  rintro n σ' H' ⟨F', ρ', c', sF, w', e', q'⟩
  cases n with
  | zero => exact q'.elim
  | succ n =>
    refine ht k F' H' σ' ρ' c' _ w' e' (wp_imp q' fun b c2 z F2 H2 x2 w2 => ?_)
    cases b with
    | false => exact z F2 H2 σ' (sF.trans x2.fz) w2 (e'.step x2)
    | true =>
      refine ⟨fun σ3 H3 => ∃ F' ρ' c', Same F F' ∧ Wo k F' H3 c' ∧ EI k E F' H3 σ3 ρ' ∧ (M.whileN (Δ := Δ) mt mb n ρ').wp c' (SP k F E El R D) (XP μ k), fun σ3 H3 z => ⟨n, Nat.lt_succ_self n, z⟩, ?_⟩
      have s2 : Same F F2 := sF.trans x2.fz
      refine hb k F2 H2 σ' ρ' c2 _ w2 (e'.step x2) ((mb _).mono c2 (fun t c3 z => ?_) (fun _ z => z) z)
      cases t with
      | nx ρ4 => exact fun F4 H4 σ4 s4 w4 e4 => ⟨F4, ρ4, c3, s2.trans s4, w4, e4, z⟩
      | ct ρ4 => exact fun F4 H4 σ4 s4 w4 e4 => ⟨F4, ρ4, c3, s2.trans s4, w4, e4, z⟩
      | bk ρ4 => exact fun F4 H4 σ4 s4 w4 e4 => z F4 H4 σ4 (s2.trans s4) w4 e4
      | rt b => exact fun v F4 H4 w4 r4 => z v F4 H4 w4 r4
/-! ### comprehensions -/
theorem ExtX.mod {p : Option Addr} {F H F' H' : Hp} {D : Addr} {o : HO} (x : ExtX p F H F' H') (n : H D = none) (f : F' D = none) : ExtX p F H F' (upd H' D o) := by
  refine ⟨x.fz, fun b u e => ?_, fun b u np e => ?_, x.old, fun b u h m => ?_, fun b nb => ?_⟩
  · rw [upd_ne (ne_of_none e f)]; exact x.sub _ _ e
  · rw [upd_ne (ne_of_none e n)]; exact x.hp b u np e
  · rw [upd_ne (ne_of_none h n)]; exact x.mu b u h m
  · by_cases c : b = D
    · subst c; rw [upd_same]; simp
    · rw [upd_ne c]; exact x.on b nb
theorem Wo.mod {k : Cn} {F H : Hp} {c : Nat} {D : Addr} {o : HO} (w : Wo k F H c) (n : k.H0 D = none) (f : F D = none) : Wo k F (upd H D o) c := by
  have x := w.ext.mod (o := o) n f
  refine ⟨x.sub, x, fun a e => ?_⟩
  obtain ⟨h1, h2, h3⟩ := w.dice a e
  have ne : a ≠ D := fun z => by subst z; exact h2 n
  obtain ⟨d0, d1, d2, h, r⟩ := h3
  exact ⟨h1, h2, d0, d1, d2, by rw [upd_ne ne]; exact h, r⟩
/-- a comprehension's target: the slots js are its own -/
def SGw (js : List Nat) (E : EV Γ) (R : Rp α) (g : TG) (E' : EV Γ') (put : Γ → α → Γ') : Prop :=
  ∀ (k : Cn) (F H : Hp) (σ : L2.St) (ρ : Γ) (c : Nat) (v : V) (a : α) (Q : L2.St → Hp → Prop), Wo k F H c → EI k E F H σ ρ → R.r F v a → (∀ σ', wipe σ' js = wipe σ js → EI k E' F H σ' (put ρ a) → Q σ' H) → g v (wipe σ js) H Q
theorem gw_name {j : Nat} {put : Γ → α → Γ'} (h : PutS E j (sVal Ra) E' put) : SGw [j] E Ra (gName j) E' put := fun k F H σ ρ c v a Q w e r q => by
  show Q ((σ.set j none).set j (some v)) H
  rw [List.set_set]
  refine q _ ?_ ⟨h.put e.r ⟨v, rfl, r⟩, h.nd e.nd fun _ z => nomatch z⟩
  show (σ.set j (some v)).set j none = σ.set j none
  rw [List.set_set]
theorem gw_two {K : PySem.W.Frag} {i j : Nat} {put : Γ → α → Γ'} {put' : Γ' → β → Γ''} (ne : i ≠ j) (h : PutS E i (sVal Ra) E' put) (h' : PutS E' j (sVal Rb) E'' put') :
    SGw [i, j] E (rTx K (aCons Ra (aCons Rb aNil))) (gTup K 2 (gCons (gName i) (gCons (gName j) gNil))) E'' fun ρ a => put' (put ρ a.1) a.2.1 := fun k F H σ ρ c v a Q w e ⟨p, vs, ev, hp, ⟨v1, ws, e1, r1, ⟨v2, ws2, e2, r2, e3⟩⟩⟩ q => by
  subst ev e1 e2 e3
  refine ⟨p, _, rfl, same_seqT w.sub hp, rfl, v1, _, rfl, v2, _, rfl, rfl, ?_⟩
  have es : ((wipe σ [i, j]).set i (some v1)).set j (some v2) = (σ.set i (some v1)).set j (some v2) := by
    show (((σ.set j none).set i none).set i (some v1)).set j (some v2) = _
    rw [List.set_set, List.set_comm _ _ ne, List.set_set, List.set_comm _ _ (Ne.symm ne)]
  rw [es]
  have e1 : EI k E' F H (σ.set i (some v1)) (put ρ a.1) := ⟨h.put e.r ⟨v1, rfl, r1⟩, h.nd e.nd fun _ z => nomatch z⟩
  refine q _ ?_ ⟨h'.put e1.r ⟨v2, rfl, r2⟩, h'.nd e1.nd fun _ z => nomatch z⟩
  show ((((σ.set i (some v1)).set j (some v2)).set j none).set i none) = (σ.set j none).set i none
  rw [List.set_set, List.set_comm _ _ (Ne.symm ne), List.set_set, List.set_comm _ _ ne]
theorem EI.upd {k : Cn} {F H : Hp} {σ : L2.St} {ρ : Γ} {D : Addr} {o : HO} (e : EI k E F H σ ρ) (n : D ∉ E.owns σ) : EI k E F (L2.upd H D o) σ ρ := ⟨E.upd n e.r, e.nd⟩
theorem t_yes : ST μ E tYes fun _ => .ret true := fun k F H σ ρ c Q w e q => q F H (ExtX.refl w.sub) w
/-- [e for x in xs if t] -/
theorem n_lc {wi : TI} {tt : TT} {te : TE} {js : List Nat} {ml : Γ → M (List α)} {put : Γ → α → Γ'} {mt : Γ' → M Bool} {me : Γ' → M β} {gg : TG} (hi : SI μ E Ra wi ml) (hg : SGw js E Ra gg E' put) (ht : ST μ E' tt mt) (he : SE μ E' Rb te me) :
    SN μ E Rb (tLc wi gg tt te js) fun ρ => (ml ρ).bind fun xs => .need (xs.length ≤ 1000000) (M.lcM xs fun a => (mt (put ρ a)).bind fun b => .ifb b ((me (put ρ a)).bind fun y => .ret (some y)) (.ret none)) := fun k F H σ ρ c Q w e h =>
  hi k F H σ ρ c _ w e (wp_imp h fun xs c1 ⟨hxs, q⟩ J F1 H1 x1 w1 wk D nD => by
    have nDH : H D = none := by
      cases z : H D with
      | none => rfl
      | some o => exact absurd nD (x1.on D (by rw [z]; simp))
    have nD0 := w.h0 nDH
    have nDF : F1 D = none := w1.sub.free nD
    have now : D ∉ E.owns σ := fun z => (E.has e.r z).1 nDH
    have np : k.p ≠ some D := w.np nD0
    refine ⟨fun i n H' => n = xs.length - i ∧ i ≤ xs.length ∧ ∃ F' c' acc ys, Same F1 F' ∧ ExtX k.p F H F' H' ∧ Wo k F' H' c' ∧ EI k E F' H' σ ρ ∧ F' D = none ∧ H' D = some (.lst acc) ∧ acc.length ≤ i ∧ All2 (Rb.r F') acc ys ∧
        (M.lcM (xs.drop i) fun a => (mt (put ρ a)).bind fun b => .ifb b ((me (put ρ a)).bind fun y => .ret (some y)) (.ret none)).wp c' (fun zs c => VN k F H Rb Q (ys ++ zs) c) (XP μ k),
      ⟨xs.length, by simp, Nat.zero_le _, F1, c1, [], [], Same.refl _, x1.mod nDH nDF, w1.mod nD0 nDF, (e.step x1).upd now, nDF, upd_same, Nat.le_refl _, .nil, q⟩, ?_⟩
    rintro i n H' ⟨rfl, hi, F', c', acc, ys, s1, x', w', e', f', hD', hl, al, q'⟩
    obtain ⟨go, stop⟩ := wk i F' H' s1 w'.sub
    by_cases hlt : i < xs.length
    · obtain ⟨g1, g2⟩ := go _ (List.getElem?_eq_getElem hlt)
      have ed : xs.drop i = xs[i] :: xs.drop (i + 1) := List.drop_eq_getElem_cons hlt
      rw [ed, M.lcM_cons] at q'
      refine .inr ⟨g1, fun H2 => i + 1 ≤ xs.length ∧ ∃ F' c' acc ys, Same F1 F' ∧ ExtX k.p F H F' H2 ∧ Wo k F' H2 c' ∧ EI k E F' H2 σ ρ ∧ F' D = none ∧ H2 D = some (.lst acc) ∧ acc.length ≤ i + 1 ∧ All2 (Rb.r F') acc ys ∧
        (M.lcM (xs.drop (i + 1)) fun a => (mt (put ρ a)).bind fun b => .ifb b ((me (put ρ a)).bind fun y => .ret (some y)) (.ret none)).wp c' (fun zs c => VN k F H Rb Q (ys ++ zs) c) (XP μ k),
        fun H2 ⟨z0, z⟩ => ⟨xs.length - (i + 1), by omega, rfl, z0, z⟩, fun x H2 y => ?_⟩
      obtain ⟨F2, x2, r2⟩ := g2 x H2 y
      obtain ⟨x2', w2⟩ := w'.call x2
      refine hg k F2 H2 σ ρ c' x _ _ w2 (e'.step x2') r2 fun σ3 hw e3 => ⟨hw, ?_⟩
      refine ht k F2 H2 σ3 _ c' _ w2 e3 (wp_imp q' fun b c3 z F3 H3 x3 w3 => ?_)
      have x13 := x2'.trans x3
      have f3 : F3 D = none := (x13.old D _ hD' rfl).trans f'
      have h3 : H3 D = some (.lst acc) := x13.hp D _ np hD'
      cases b with
      | false => exact ⟨hlt, F3, c3, acc, ys, s1.trans x13.fz, x'.trans x13, w3, e'.step x13, f3, h3, Nat.le_succ_of_le hl, al.imp fun _ _ g => Rb.st x13.fz g, z⟩
      | true =>
        refine he k F3 H3 σ3 _ c3 _ w3 (e3.step x3) (wp_imp z fun y c4 z v F4 H4 x4 w4 r4 => ?_)
        have x14 := x13.trans x4
        have f4 : F4 D = none := (x14.old D _ hD' rfl).trans f'
        have h4 : H4 D = some (.lst acc) := x14.hp D _ np hD'
        refine ⟨acc, h4, by rw [sizeLine_eq]; omega, hlt, F4, c4, acc ++ [v], ys ++ [y], s1.trans x14.fz, (x'.trans x14).mod nDH f4, w4.mod nD0 f4, (e'.step x14).upd now, f4, upd_same, by rw [List.length_append]; exact Nat.succ_le_succ hl, (al.imp fun _ _ g => Rb.st x14.fz g).snoc r4, ?_⟩
        exact wp_imp z fun zs c z => by
          rw [List.append_assoc]
          exact z
    · have e0 : i = xs.length := by omega
      subst e0
      rw [List.drop_length, M.lcM_nil] at q'
      refine .inl ⟨stop (Nat.le_refl _), ?_⟩
      have z : VN k F H Rb Q (ys ++ []) c' := q'
      rw [List.append_nil] at z
      exact z D acc F' H' x' w' nDH nD0 hD' f' al)
/-! ### walked things -/
theorem i_ls {K : PySem.W.Frag} {tl : TE} {m : Γ → M (List α)} (h : SE μ E (rLs Ra) tl m) : SI μ E Ra (iList K tl) m := fun k F H σ ρ c W w e q =>
  h k F H σ ρ c _ w e (wp_imp q fun xs c1 z v F1 H1 x1 w1 ⟨p, vs, ev, hp, al⟩ => ⟨p, ev, ⟨vs, .of (w1.sub _ _ hp)⟩, z _ F1 H1 x1 w1 fun i F' H' s1 s2 => by
    have sq : SqL K H' p vs := .of (s2 _ _ (s1 _ _ hp))
    refine ⟨fun a ha => ?_, fun hi => ⟨vs, sq, by rw [al.len]; exact hi⟩⟩
    obtain ⟨u, hu, r⟩ := al.get ha
    exact ⟨⟨vs, u, sq, hu⟩, fun x H'' ⟨e1, e2⟩ => by
      subst e1
      have := e2 vs sq
      rw [hu] at this
      cases this
      exact ⟨F', ExtX.refl s2, Ra.st s1 r⟩⟩⟩)
theorem i_lst {K : PySem.W.Frag} {tl : TE} {m : Γ → M (List α)} (h : SE μ E (rLst K Ra) tl m) : SI μ E Ra (iList K tl) m := fun k F H σ ρ c W w e q =>
  h k F H σ ρ c _ w e (wp_imp q fun xs c1 z v F1 H1 x1 w1 ⟨p, vs, ev, hp, al⟩ => ⟨p, ev, ⟨vs, w1.sub.seq hp⟩, z _ F1 H1 x1 w1 fun i F' H' s1 s2 => by
    have sq : SqL K H' p vs := s2.seq (s1.seq hp)
    refine ⟨fun a ha => ?_, fun hi => ⟨vs, sq, by rw [al.len]; exact hi⟩⟩
    obtain ⟨u, hu, r⟩ := al.get ha
    exact ⟨⟨vs, u, sq, hu⟩, fun x H'' ⟨e1, e2⟩ => by
      subst e1
      have := e2 vs sq
      rw [hu] at this
      cases this
      exact ⟨F', ExtX.refl s2, Ra.st s1 r⟩⟩⟩)
theorem i_tup {K : PySem.W.Frag} {tl : TE} {m : Γ → M (List α)} (h : SE μ E (rTup K Ra) tl m) : SI μ E Ra (iTup K tl) m := fun k F H σ ρ c W w e q =>
  h k F H σ ρ c _ w e (wp_imp q fun xs c1 z v F1 H1 x1 w1 ⟨p, vs, ev, hp, al⟩ => ⟨p, ev, ⟨vs, same_seqT w1.sub hp⟩, z _ F1 H1 x1 w1 fun i F' H' s1 s2 => by
    have sq : SqT K H' p vs := same_seqT s2 (same_seqT s1 hp)
    refine ⟨fun a ha => ?_, fun hi => ⟨vs, sq, by rw [al.len]; exact hi⟩⟩
    obtain ⟨u, hu, r⟩ := al.get ha
    exact ⟨⟨vs, u, sq, hu⟩, fun x H'' ⟨e1, e2⟩ => by
      subst e1
      have := e2 vs sq
      rw [hu] at this
      cases this
      exact ⟨F', ExtX.refl s2, Ra.st s1 r⟩⟩⟩)
/-- lo, lo + 1, .. -/
theorem rng_ex (lo hi : Int) : ∃ l : List Int, l = (List.range (hi - lo).toNat).map fun i : Nat => lo + (i : Int) := ⟨_, rfl⟩
noncomputable def rng (lo hi : Int) : List Int := Classical.choose (rng_ex lo hi)
theorem rng_eq (lo hi : Int) : rng lo hi = (List.range (hi - lo).toNat).map fun i : Nat => lo + (i : Int) := Classical.choose_spec (rng_ex lo hi)
theorem rng_get {lo hi a : Int} {i : Nat} (h : (rng lo hi)[i]? = some a) : i < (hi - lo).toNat ∧ a = lo + (i : Int) := by
  rw [rng_eq] at h
  rw [List.getElem?_map] at h
  cases z : (List.range (hi - lo).toNat)[i]? with
  | none => rw [z] at h; cases h
  | some j =>
    rw [z] at h
    obtain ⟨h1, h2⟩ := List.getElem?_eq_some_iff.mp z
    rw [List.length_range] at h1
    rw [List.getElem_range] at h2
    cases h
    exact ⟨h1, by rw [h2]⟩
theorem rng_walks {F1 : Hp} {lo hi : Int} : Walks (Itr lo (hi - lo).toNat) F1 rInt (rng lo hi) := fun i F' H' s1 s2 =>
  ⟨fun a ha => by
    obtain ⟨h1, h2⟩ := rng_get ha
    exact ⟨h1, fun x H'' ⟨e1, e2⟩ => ⟨F', by rw [e1]; exact ExtX.refl s2, by rw [h2]; exact e2⟩⟩, fun hi => by
    rw [rng_eq, List.length_map, List.length_range] at hi
    exact hi⟩
theorem i_rng2 {ta tb : TE} {ma mb : Γ → M Int} (ha : SE μ E rInt ta ma) (hb : SE μ E rInt tb mb) : SI μ E rInt (iRng2 (tCons ta (tCons tb tNil))) fun ρ => (ma ρ).bind fun a => (mb ρ).bind fun b => .need (-(2 ^ 62) ≤ a ∧ a < 2 ^ 62 ∧ -(2 ^ 62) ≤ b ∧ b < 2 ^ 62) (.ret (rng a b)) := fun k F H σ ρ c W w e h =>
  ha k F H σ ρ c _ w e (wp_imp h fun a c1 q v F1 H1 x1 w1 r1 => hb k F1 H1 σ ρ c1 _ w1 (e.step x1) (wp_imp q fun b c2 ⟨q1, q⟩ v2 F2 H2 x2 w2 r2 => by
    cases r1
    cases r2
    exact ⟨a, b, rfl, q1, q _ F2 H2 (x1.trans x2) w2 rng_walks⟩))
theorem i_rng1 {ta : TE} {ma : Γ → M Int} (ha : SE μ E rInt ta ma) : SI μ E rInt (iRng1 (tCons ta tNil)) fun ρ => (ma ρ).bind fun a => .need (-(2 ^ 62) ≤ a ∧ a < 2 ^ 62) (.ret (rng 0 a)) := fun k F H σ ρ c W w e h =>
  ha k F H σ ρ c _ w e (wp_imp h fun a c1 ⟨⟨q1, q2⟩, q⟩ v F1 H1 x1 w1 r1 => by
    cases r1
    exact ⟨a, rfl, q1, q2, q _ F1 H1 x1 w1 (by
      have z := rng_walks (F1 := F1) (lo := 0) (hi := a)
      rw [Int.sub_zero] at z
      exact z)⟩)
/-! ### a def by its body -/
/-- the slots at the start: S the parameters, n others -/
structure St0 (S : RA α) (n : Nat) (E : EV Γ) (ρ0 : α → Γ) : Prop where
  r : ∀ {p : Option Addr} {H0 F H : Hp} {vs : List V} {a : α}, S.r F vs a → E.r p H0 F H (vs.map some ++ List.replicate n none) (ρ0 a)
  ow : ∀ σ, E.owns σ = []
theorem st_nil : St0 aNil 0 eNil fun _ => () := ⟨fun h => by subst h; rfl, fun _ => rfl⟩
theorem st_un {n : Nat} {ρ0 : Unit → Γ} (h : St0 aNil n E ρ0) : St0 aNil (n + 1) (eCons sUn E) fun a => ((), ρ0 a) := ⟨fun {p H0 F H vs a} z => by
  have z' : vs = [] := z
  subst z'
  exact ⟨none, List.replicate n none, rfl, trivial, h.r (F := F) (vs := []) z⟩, fun σ => by
  cases σ with
  | nil => rfl
  | cons o τ => exact h.ow τ⟩
theorem st_par {S : RA β} {n : Nat} {ρ0 : β → Γ} (h : St0 S n E ρ0) : St0 (aCons Ra S) n (eCons (sVal Ra) E) fun a => (a.1, ρ0 a.2) := ⟨fun ⟨v, ws, e, r, t⟩ => ⟨some v, ws.map some ++ List.replicate n none, by rw [e]; rfl, ⟨v, rfl, r⟩, h.r t⟩, fun σ => by
  cases σ with
  | nil => rfl
  | cons o τ => exact h.ow τ⟩
/-- with the dice ahead -/
structure StD (S : RA α) (n : Nat) (E : EV Γ) (ρ0 : α → Γ) : Prop where
  r : ∀ {p : Addr} {H0 F H : Hp} {vs : List V} {a : α}, S.r F vs a → E.r (some p) H0 F H ((.ref p :: vs).map some ++ List.replicate n none) (ρ0 a)
  ow : ∀ σ, E.owns σ = []
theorem st_dice {S : RA β} {n : Nat} {ρ0 : β → Γ} (h : St0 S n E ρ0) : StD S n (eCons sDice E) fun a => ((), ρ0 a) := ⟨fun {p H0 F H vs a} z => ⟨_, vs.map some ++ List.replicate n none, rfl, ⟨p, rfl, rfl⟩, h.r z⟩, fun σ => by
  cases σ with
  | nil => rfl
  | cons o τ => exact h.ow τ⟩
theorem start_eq {N : List Str} {vs : List V} {n : Nat} (h : N.length = vs.length + n) : L2.start N vs = vs.map some ++ List.replicate n none := by
  unfold L2.start
  rw [h, Nat.add_sub_cancel_left]
theorem fn_body {S : RA α} {n : Nat} {ρ0 : α → Γ} {N : List Str} {t : TS} {mb : Γ → M (Ct Γ' Unit γ)} (h0 : St0 S n E ρ0) (hn : N.length = S.n + n) (hb : SS md0 E E' eNil R t mb) {vs : List V} {H : Hp} {Q : VK} {X : XK}
    (hs : spOf S R (fun a => (mb (ρ0 a)).fin) vs H Q X) : t { nx := fun _ H' => Q .non H', rt := Q } (L2.start N vs) H := by
  obtain ⟨F, a, s, r, h⟩ := hs
  rw [start_eq (n := n) (by rw [hn, S.len r])]
  refine hb ⟨none, F, H⟩ F H _ (ρ0 a) 0 _ ⟨s, ExtX.refl s, fun _ e => nomatch e⟩ ⟨h0.r r, by rw [h0.ow]; exact List.nodup_nil⟩ ?_
  refine (mb (ρ0 a)).mono 0 (fun t c z => ?_) (fun er z => z.elim) h
  cases t with
  | nx _ => exact z.elim
  | rt b => exact fun v F' H' w r => z v F' H' w.ext r
  | bk _ => exact z.elim
  | ct _ => exact z.elim
theorem fn_bodyN {S : RA α} {n : Nat} {ρ0 : α → Γ} {N : List Str} {t : TS} {mb : Γ → M (Ct Γ' Unit Unit)} (h0 : St0 S n E ρ0) (hn : N.length = S.n + n) (hb : SS md0 E E' eNil rNon t mb) {vs : List V} {H : Hp} {Q : VK} {X : XK}
    (hs : spOf S rNon (fun a => (mb (ρ0 a)).finN) vs H Q X) : t { nx := fun _ H' => Q .non H', rt := Q } (L2.start N vs) H := by
  obtain ⟨F, a, s, r, h⟩ := hs
  rw [start_eq (n := n) (by rw [hn, S.len r])]
  refine hb ⟨none, F, H⟩ F H _ (ρ0 a) 0 _ ⟨s, ExtX.refl s, fun _ e => nomatch e⟩ ⟨h0.r r, by rw [h0.ow]; exact List.nodup_nil⟩ ?_
  refine (mb (ρ0 a)).mono 0 (fun t c z => ?_) (fun er z => z.elim) h
  cases t with
  | nx _ => exact fun F' H' σ' _ w _ => z .non F' H' w.ext rfl
  | rt b => exact fun v F' H' w r => z v F' H' w.ext r
  | bk _ => exact z.elim
  | ct _ => exact z.elim
theorem fn_bodyD {S : RA α} {n : Nat} {ρ0 : α → Γ} {N : List Str} {t : TS} {mb : Γ → M (Ct Γ' Unit γ)} (h0 : StD S n E ρ0) (hn : N.length = S.n + 1 + n) (hb : SS md0 E E' eNil R t mb) {vs : List V} {H : Hp} {Q : VK} {X : XK}
    (hs : spOfD S R (fun a => (mb (ρ0 a)).fin) vs H Q X) : t { nx := fun _ H' => Q .non H', rt := Q } (L2.start N vs) H := by
  obtain ⟨F, p, ws, a, c, rfl, s, f, d, r, h⟩ := hs
  rw [start_eq (n := n) (by rw [hn, List.length_cons, S.len r])]
  have hp : H p ≠ none := by obtain ⟨_, _, _, z, _⟩ := d; rw [z]; simp
  refine hb ⟨some p, F, H⟩ F H _ (ρ0 a) c _ ⟨s, ExtX.refl s, fun q e => by cases e; exact ⟨f, hp, d⟩⟩ ⟨h0.r r, by rw [h0.ow]; exact List.nodup_nil⟩ ?_
  refine (mb (ρ0 a)).mono c (fun t c z => ?_) (fun er z => z.elim) h
  cases t with
  | nx _ => exact z.elim
  | rt b => exact fun v F' H' w r => z v F' H' w.ext (w.dice p rfl).1 (w.dice p rfl).2.2 r
  | bk _ => exact z.elim
  | ct _ => exact z.elim
theorem spOf_len {S : RA α} {m : α → M γ} {vs : List V} {H : Hp} {Q : VK} {X : XK} (h : spOf S R m vs H Q X) : vs.length = S.n := by
  obtain ⟨F, a, s, r, _⟩ := h
  exact S.len r
theorem spOfD_len {S : RA α} {m : α → M γ} {vs : List V} {H : Hp} {Q : VK} {X : XK} (h : spOfD S R m vs H Q X) : vs.length = S.n + 1 := by
  obtain ⟨F, p, ws, a, c, rfl, s, f, d, r, _⟩ := h
  rw [List.length_cons, S.len r]
end
end PF

set_option Elab.async false
set_option linter.all false
set_option maxRecDepth 100000
set_option maxHeartbeats 4000000
namespace PF
open PySem PySem.Spec PyProof.Rows L2 SlX
section
variable {Γ Γ' Γ'' Δ α β γ δ : Type} {μ : Md} {E : EV Γ} {E' : EV Γ'} {E'' : EV Γ''} {El : EV Δ} {Ra : Rp α} {Rb : Rp β} {R : Rp γ} {K : PySem.W.Frag}
theorem VP.now {k : Cn} {F H : Hp} {c : Nat} {Q : VK} {v : V} {a : α} (w : Wo k F H c) (q : VP k F H Ra Q a c) (r : Ra.r F v a) : Q v H := q v F H (ExtX.refl w.sub) w r
theorem VP.newT {k : Cn} {F H : Hp} {c : Nat} {Q : VK} {a : α} {p : Addr} {o : HO} (w : Wo k F H c) (q : VP k F H Ra Q a c) (n : H p = none) (r : Same F (upd F p o) → Ra.r (upd F p o) (.ref p) a) : Q (.ref p) (upd H p o) :=
  q _ _ _ (ExtX.new (p := k.p) w.sub n o) (w.new n o) (r (ExtX.new (p := k.p) w.sub n o).fz)
theorem VN.newL {k : Cn} {F H : Hp} {c : Nat} {Q : VK} {xs : List α} {p : Addr} {vs : List V} (w : Wo k F H c) (q : VN k F H Ra Q xs c) (n : H p = none) (r : All2 (Ra.r F) vs xs) : Q (.ref p) (upd H p (.lst vs)) :=
  q p vs _ _ (ExtX.own (p := k.p) w.sub n _) (w.own n _) n (w.h0 n) upd_same (w.sub.free n) r
abbrev a1 (R : Rp α) : RA (α × Unit) := aCons R aNil
abbrev a2 (R : Rp α) (S : Rp β) : RA (α × β × Unit) := aCons R (aCons S aNil)
theorem one {F : Hp} {vs : List V} {a : α × Unit} (h : (a1 Ra).r F vs a) : ∃ v, vs = [v] ∧ Ra.r F v a.1 := by
  obtain ⟨v, ws, e, r, e2⟩ := h
  have e2' : ws = [] := e2
  exact ⟨v, by rw [e, e2'], r⟩
theorem two {F : Hp} {vs : List V} {a : α × β × Unit} (h : (a2 Ra Rb).r F vs a) : ∃ v w, vs = [v, w] ∧ Ra.r F v a.1 ∧ Rb.r F w a.2.1 := by
  obtain ⟨v, ws, e, r, u, us, e1, r2, e2⟩ := h
  have e2' : us = [] := e2
  exact ⟨v, u, by rw [e, e1, e2'], r, r2⟩
theorem c_abs : CaS μ (fun xs H Q => ∃ i, xs = [.int i] ∧ Q (.int (if i < 0 then -i else i)) H) (a1 rInt) rInt fun a => .ret (if a.1 < 0 then -a.1 else a.1) := fun k F H c vs a Q w r q => by
  obtain ⟨v, e, r⟩ := one r
  exact ⟨a.1, by rw [e, r], q.now w rfl⟩
theorem c_len {n : α → Nat} (h : ∀ {F H : Hp} {v : V} {a : α}, Same F H → Ra.r F v a → LenV K v H (n a)) : CaS μ (fun xs H Q => ∃ x n, xs = [x] ∧ LenV K x H n ∧ Q (.int n) H) (a1 Ra) rInt fun a => .ret (n a.1 : Int) := fun k F H c vs a Q w r q => by
  obtain ⟨v, e, r⟩ := one r
  exact ⟨v, n a.1, e, h w.sub r, q.now w rfl⟩
theorem len_ls {F H : Hp} {v : V} {xs : List α} (s : Same F H) (h : (rLs Ra).r F v xs) : LenV K v H xs.length := by
  obtain ⟨p, vs, rfl, hp, al⟩ := h
  exact .inl ⟨vs, .of (s _ _ hp), al.len.symm⟩
theorem len_lst {F H : Hp} {v : V} {xs : List α} (s : Same F H) (h : (rLst K Ra).r F v xs) : LenV K v H xs.length := by
  obtain ⟨p, vs, rfl, hp, al⟩ := h
  exact .inl ⟨vs, s.seq hp, al.len.symm⟩
theorem len_tup {F H : Hp} {v : V} {xs : List α} (s : Same F H) (h : (rTup K Ra).r F v xs) : LenV K v H xs.length := by
  obtain ⟨p, vs, rfl, hp, al⟩ := h
  exact .inr ⟨vs, same_seqT s hp, al.len.symm⟩
theorem len_tx {S : RA α} {F H : Hp} {v : V} {a : α} (s : Same F H) (h : (rTx K S).r F v a) : LenV K v H S.n := by
  obtain ⟨p, vs, rfl, hp, al⟩ := h
  exact .inr ⟨vs, same_seqT s hp, (S.len al).symm⟩
theorem c_lenS : CaS μ (fun xs H Q => ∃ z, xs = [.str z] ∧ z.length ≤ sizeLine ∧ Q (.int z.length) H) (a1 rStr) rInt fun a => .need (a.1.length ≤ sizeLine) (.ret (a.1.length : Int)) := fun k F H c vs a Q w r q => by
  obtain ⟨v, e, r⟩ := one r
  exact ⟨a.1, by rw [e, r], q.1, VP.now w q.2 rfl⟩
theorem c_max2 : CaS μ (fun xs H Q => ∃ i j, xs = [.int i, .int j] ∧ Q (.int (if j > i then j else i)) H) (a2 rInt rInt) rInt fun a => .ret (if a.2.1 > a.1 then a.2.1 else a.1) := fun k F H c vs a Q w r q => by
  obtain ⟨v, u, e, r1, r2⟩ := two r
  exact ⟨a.1, a.2.1, by rw [e, r1, r2], VP.now w q rfl⟩
theorem c_min2 : CaS μ (fun xs H Q => ∃ i j, xs = [.int i, .int j] ∧ Q (.int (if j < i then j else i)) H) (a2 rInt rInt) rInt fun a => .ret (if a.2.1 < a.1 then a.2.1 else a.1) := fun k F H c vs a Q w r q => by
  obtain ⟨v, u, e, r1, r2⟩ := two r
  exact ⟨a.1, a.2.1, by rw [e, r1, r2], VP.now w q rfl⟩
theorem int_ls {F H : Hp} {v : V} {xs : List Int} (s : Same F H) (h : (rLs rInt).r F v xs) : ∃ p, v = .ref p ∧ SqL K H p (xs.map V.int) := by
  obtain ⟨p, vs, rfl, hp, al⟩ := h
  exact ⟨p, rfl, .of (by rw [← al.to_map V.int fun _ _ z => z]; exact s _ _ hp)⟩
theorem bl_ls {F H : Hp} {v : V} {xs : List Bool} (s : Same F H) (h : (rLs rBl).r F v xs) : ∃ p, v = .ref p ∧ SqL K H p (xs.map V.bl) := by
  obtain ⟨p, vs, rfl, hp, al⟩ := h
  exact ⟨p, rfl, .of (by rw [← al.to_map V.bl fun _ _ z => z]; exact s _ _ hp)⟩
theorem str_ls {F H : Hp} {v : V} {xs : List Str} (s : Same F H) (h : (rLs rStr).r F v xs) : ∃ p, v = .ref p ∧ SqL K H p (xs.map V.str) := by
  obtain ⟨p, vs, rfl, hp, al⟩ := h
  exact ⟨p, rfl, .of (by rw [← al.to_map V.str fun _ _ z => z]; exact s _ _ hp)⟩
theorem str_tup {F H : Hp} {v : V} {xs : List Str} (s : Same F H) (h : (rTup K rStr).r F v xs) : ∃ p, v = .ref p ∧ SqT K H p (xs.map V.str) := by
  obtain ⟨p, vs, rfl, hp, al⟩ := h
  exact ⟨p, rfl, by rw [← al.to_map V.str fun _ _ z => z]; exact same_seqT s hp⟩
theorem c_sum : CaS μ (rSum K) (a1 (rLs rInt)) rInt fun a => .ret a.1.sum := fun k F H c vs a Q w r q => by
  obtain ⟨v, e, r⟩ := one r
  obtain ⟨p, ev, hp⟩ := int_ls (K := K) w.sub r
  exact ⟨p, a.1, by rw [e, ev], hp, VP.now w q rfl⟩
theorem c_max1 : CaS μ (rMax K) (a1 (rLs rInt)) rInt fun a => .need (0 < a.1.length) (.anyOf fun m => m ∈ a.1 ∧ ∀ y ∈ a.1, y ≤ m) := fun k F H c vs a Q w r q => by
  obtain ⟨v, e, r⟩ := one r
  obtain ⟨p, ev, hp⟩ := int_ls (K := K) w.sub r
  exact ⟨p, a.1, by rw [e, ev], hp, q.1, fun m h1 h2 => VP.now w (q.2 m ⟨h1, h2⟩) rfl⟩
theorem c_min1 : CaS μ (rMin K) (a1 (rLs rInt)) rInt fun a => .need (0 < a.1.length) (.anyOf fun m => m ∈ a.1 ∧ ∀ y ∈ a.1, m ≤ y) := fun k F H c vs a Q w r q => by
  obtain ⟨v, e, r⟩ := one r
  obtain ⟨p, ev, hp⟩ := int_ls (K := K) w.sub r
  exact ⟨p, a.1, by rw [e, ev], hp, q.1, fun m h1 h2 => VP.now w (q.2 m ⟨h1, h2⟩) rfl⟩
theorem c_all : CaS μ (rAll K) (a1 (rLs rBl)) rBl fun a => .ret (a.1.all id) := fun k F H c vs a Q w r q => by
  obtain ⟨v, e, r⟩ := one r
  obtain ⟨p, ev, hp⟩ := bl_ls (K := K) w.sub r
  exact ⟨p, a.1, by rw [e, ev], hp, VP.now w q rfl⟩
theorem c_any : CaS μ (rAny K) (a1 (rLs rBl)) rBl fun a => .ret (a.1.any id) := fun k F H c vs a Q w r q => by
  obtain ⟨v, e, r⟩ := one r
  obtain ⟨p, ev, hp⟩ := bl_ls (K := K) w.sub r
  exact ⟨p, a.1, by rw [e, ev], hp, VP.now w q rfl⟩
theorem c_intI : CaS μ (fun xs H Q => (∃ i, xs = [.int i] ∧ Q (.int i) H) ∨ ∃ k, xs = [.bl k] ∧ Q (.int (if k then 1 else 0)) H) (a1 rInt) rInt fun a => .ret a.1 := fun k F H c vs a Q w r q => by
  obtain ⟨v, e, r⟩ := one r
  exact .inl ⟨a.1, by rw [e, r], VP.now w q rfl⟩
theorem c_intB : CaS μ (fun xs H Q => (∃ i, xs = [.int i] ∧ Q (.int i) H) ∨ ∃ k, xs = [.bl k] ∧ Q (.int (if k then 1 else 0)) H) (a1 rBl) rInt fun a => .ret (if a.1 = true then 1 else 0) := fun k F H c vs a Q w r q => by
  obtain ⟨v, e, r⟩ := one r
  exact .inr ⟨a.1, by rw [e, r], VP.now w q rfl⟩
theorem c_listL : CaN μ (fun xs H Q => ∃ p ys, xs = [.ref p] ∧ (SqL K H p ys ∨ SqT K H p ys) ∧ ∀ l, H l = none → Q (.ref l) (upd H l (.lst ys))) (a1 (rLs Ra)) Ra fun a => .ret a.1 := fun k F H c vs a Q w r q => by
  obtain ⟨v, e, p, ys, ev, hp, al⟩ := one r
  exact ⟨p, ys, by rw [e, ev], .inl (.of (w.sub _ _ hp)), fun l n => VN.newL w q n al⟩
theorem c_listT : CaN μ (fun xs H Q => ∃ p ys, xs = [.ref p] ∧ (SqL K H p ys ∨ SqT K H p ys) ∧ ∀ l, H l = none → Q (.ref l) (upd H l (.lst ys))) (a1 (rTup K Ra)) Ra fun a => .ret a.1 := fun k F H c vs a Q w r q => by
  obtain ⟨v, e, p, ys, ev, hp, al⟩ := one r
  exact ⟨p, ys, by rw [e, ev], .inr (same_seqT w.sub hp), fun l n => VN.newL w q n al⟩
theorem c_tupL : CaS μ (fun xs H Q => ∃ p ys, xs = [.ref p] ∧ ((SqL K H p ys ∧ ∀ l, H l = none → Q (.ref l) (upd H l (.tup ys))) ∨ (SqT K H p ys ∧ Q (.ref p) H))) (a1 (rLs Ra)) (rTup K Ra) fun a => .ret a.1 := fun k F H c vs a Q w r q => by
  obtain ⟨v, e, p, ys, ev, hp, al⟩ := one r
  exact ⟨p, ys, by rw [e, ev], .inl ⟨.of (w.sub _ _ hp), fun l n => VP.newT w q n fun s => ⟨l, ys, rfl, .of upd_same, al.imp fun _ _ g => Ra.st s g⟩⟩⟩
theorem c_tupT : CaS μ (fun xs H Q => ∃ p ys, xs = [.ref p] ∧ ((SqL K H p ys ∧ ∀ l, H l = none → Q (.ref l) (upd H l (.tup ys))) ∨ (SqT K H p ys ∧ Q (.ref p) H))) (a1 (rTup K Ra)) (rTup K Ra) fun a => .ret a.1 := fun k F H c vs a Q w r q => by
  obtain ⟨v, e, r⟩ := one r
  have r' := r
  obtain ⟨p, ys, ev, hp, al⟩ := r'
  exact ⟨p, ys, by rw [e, ev], .inr ⟨same_seqT w.sub hp, by rw [← ev]; exact VP.now w q r⟩⟩
theorem c_sortI : CaN μ (rSorted K) (a1 (rLs rInt)) rInt fun a => .need (a.1.length < 64) (.anyOf fun b => b.Perm a.1 ∧ b.Pairwise (· ≤ ·)) := fun k F H c vs a Q w r q => by
  obtain ⟨v, e, r⟩ := one r
  obtain ⟨p, ev, hp⟩ := int_ls (K := K) w.sub r
  exact ⟨p, a.1, by rw [e, ev], hp, q.1, fun ns p h1 h2 n => VN.newL w (q.2 ns ⟨h1, h2⟩) n (All2.of_map (β := Unit) V.int (fun _ => rfl) ns)⟩
theorem c_sortS : CaN μ (rSortedS K) (a1 (rLs rStr)) rStr fun a => .need (a.1.length < 64) (.anyOf fun b => b.Perm a.1 ∧ sortedS b = true) := fun k F H c vs a Q w r q => by
  obtain ⟨v, e, r⟩ := one r
  obtain ⟨p, ev, hp⟩ := str_ls (K := K) w.sub r
  exact ⟨p, a.1, by rw [e, ev], hp, q.1, fun ns p h1 h2 n => VN.newL w (q.2 ns ⟨h1, h2⟩) n (All2.of_map (β := Unit) V.str (fun _ => rfl) ns)⟩
theorem c_strI : CaS μ (fun xs H Q => ∃ i, xs = [.int i] ∧ i.natAbs.log2 < 1920 ∧ Q (.str (toString i)) H) (a1 rInt) rStr fun a => .need (a.1.natAbs.log2 < 1920) (.ret (toString a.1)) := fun k F H c vs a Q w r q => by
  obtain ⟨v, e, r⟩ := one r
  exact ⟨a.1, by rw [e, r], q.1, VP.now w q.2 rfl⟩
theorem c_strS : CaS μ (fun xs H Q => ∃ a, xs = [.str a] ∧ Q (.str a) H) (a1 rStr) rStr fun a => .ret a.1 := fun k F H c vs a Q w r q => by
  obtain ⟨v, e, r⟩ := one r
  exact ⟨a.1, by rw [e, r], VP.now w q rfl⟩
theorem c_repr {d : α → PyData} {n : Nat} (hd : DpR K Ra d n) : CaS μ (rRepr K) (a1 Ra) rStr fun a => .need ((d a.1).showable = true ∧ (d a.1).hasDict = false ∧ (d a.1).shown.length ≤ sizeLine ∧ (d a.1).depth ≤ 64) (.ret (d a.1).shown) := fun k F H c vs a Q w r q => by
  obtain ⟨v, e, r⟩ := one r
  exact ⟨v, d a.1, e, Dp.same w.sub (hd.dp r), q.1.1, q.1.2.1, q.1.2.2.1, q.1.2.2.2, VP.now w q.2 rfl⟩
/-! ### data -/
theorem dp_int : DpR K rInt .int 0 := ⟨fun h => by subst h; exact .int _, fun _ => by simp [PyData.depth]⟩
theorem dp_bl : DpR K rBl .bool 0 := ⟨fun h => by subst h; exact .bl _, fun _ => by simp [PyData.depth]⟩
theorem dp_str : DpR K rStr .str 0 := ⟨fun h => by subst h; exact .str _, fun _ => by simp [PyData.depth]⟩
theorem dp_non : DpR K rNon (fun _ => .none) 0 := ⟨fun h => by subst h; exact .non, fun _ => by simp [PyData.depth]⟩
theorem dps_of {d : α → PyData} {n : Nat} (hd : DpR K Ra d n) {F : Hp} {vs : List V} {xs : List α} (al : All2 (Ra.r F) vs xs) : DpAll K F vs (xs.map d) := by
  induction al with
  | nil => exact .nil
  | cons h _ ih => exact .cons (hd.dp h) ih
theorem deep_all {d : α → PyData} {n : Nat} (h : ∀ a, (d a).depth ≤ n) : ∀ xs : List α, PyData.depthAll (xs.map d) ≤ n
  | [] => by simp [PyData.depthAll]
  | x :: xs => by
    show PyData.depthAll (d x :: xs.map d) ≤ n
    rw [PyData.depthAll]
    exact Nat.max_le.mpr ⟨h x, deep_all h xs⟩
theorem dp_ls {d : α → PyData} {n : Nat} (hd : DpR K Ra d n) : DpR K (rLs Ra) (fun xs => .list (xs.map d)) (n + 1) := ⟨fun ⟨p, vs, e, hp, al⟩ => by subst e; exact .lst (.of hp) (dps_of hd al), fun xs => by rw [PyData.depth]; exact Nat.succ_le_succ (deep_all hd.deep xs)⟩
theorem dp_tup {d : α → PyData} {n : Nat} (hd : DpR K Ra d n) : DpR K (rTup K Ra) (fun xs => .tuple (xs.map d)) (n + 1) := ⟨fun ⟨p, vs, e, hp, al⟩ => by subst e; exact .tup hp (dps_of hd al), fun xs => by rw [PyData.depth]; exact Nat.succ_le_succ (deep_all hd.deep xs)⟩
structure DpA (K : PySem.W.Frag) (S : RA α) (d : α → List PyData) (n : Nat) : Prop where
  dp : ∀ {F : Hp} {vs : List V} {a : α}, S.r F vs a → DpAll K F vs (d a)
  deep : ∀ a, PyData.depthAll (d a) ≤ n
theorem dpa_nil : DpA K aNil (fun _ => []) 0 := ⟨fun h => by subst h; exact .nil, fun _ => by simp [PyData.depthAll]⟩
theorem dpa_cons {d : α → PyData} {ds : β → List PyData} {S : RA β} {n m : Nat} (h : DpR K Ra d n) (hs : DpA K S ds m) : DpA K (aCons Ra S) (fun a => d a.1 :: ds a.2) (max n m) := ⟨fun ⟨v, ws, e, r, t⟩ => by subst e; exact .cons (h.dp r) (hs.dp t), fun a => by
  rw [PyData.depthAll]
  have := h.deep a.1
  have := hs.deep a.2
  omega⟩
theorem dp_tx {S : RA α} {ds : α → List PyData} {n : Nat} (h : DpA K S ds n) : DpR K (rTx K S) (fun a => .tuple (ds a)) (n + 1) := ⟨fun ⟨p, vs, e, hp, r⟩ => by subst e; exact .tup hp (h.dp r), fun a => by rw [PyData.depth]; exact Nat.succ_le_succ (h.deep a)⟩
theorem all2_nilR {f : V → α → Prop} {vs : List V} (h : All2 f vs []) : vs = [] := by cases h; rfl
theorem o_eqNil : OpS μ (rEqD K) (rLs Ra) (rLs Rb) rBl fun xs ys => .need (xs = [] ∧ ys = []) (.ret true) := fun k F H c x y xs ys Q w ⟨p, vs, e, hp, al⟩ ⟨p2, vs2, e2, hp2, al2⟩ ⟨⟨q1, q2⟩, q⟩ => by
  subst q1 q2 e e2
  rw [all2_nilR al] at hp
  rw [all2_nilR al2] at hp2
  exact ⟨.list [], .list [], .lst (.of (w.sub _ _ hp)) .nil, .lst (.of (w.sub _ _ hp2)) .nil, rfl, rfl, VP.now w q rfl⟩
theorem o_neNil : OpS μ (rNeD K) (rLs Ra) (rLs Rb) rBl fun xs ys => .need (xs = [] ∧ ys = []) (.ret false) := fun k F H c x y xs ys Q w ⟨p, vs, e, hp, al⟩ ⟨p2, vs2, e2, hp2, al2⟩ ⟨⟨q1, q2⟩, q⟩ => by
  subst q1 q2 e e2
  rw [all2_nilR al] at hp
  rw [all2_nilR al2] at hp2
  exact ⟨.list [], .list [], .lst (.of (w.sub _ _ hp)) .nil, .lst (.of (w.sub _ _ hp2)) .nil, rfl, rfl, VP.now w q rfl⟩
/-! ### slices -/
def SO (μ : Md) (E : EV Γ) (to : TO) (m : Γ → M (Option Int)) : Prop := ∀ (k : Cn) (F H : Hp) (σ : L2.St) (ρ : Γ) (c : Nat) (Q : Option Int → Hp → Prop), Wo k F H c → EI k E F H σ ρ → (m ρ).wp c (fun o c' => ∀ F' H', ExtX k.p F H F' H' → Wo k F' H' c' → Q o H') (XP μ k) → to σ H Q
theorem so_none : SO μ E tNoPart fun _ => .ret none := fun k F H σ ρ c Q w e q => q F H (ExtX.refl w.sub) w
theorem so_some {te : TE} {m : Γ → M Int} (h : SE μ E rInt te m) : SO μ E (tPart te) fun ρ => (m ρ).bind fun i => .ret (some i) := fun k F H σ ρ c Q w e q => h k F H σ ρ c _ w e (wp_imp q fun i c1 z v F1 H1 x1 w1 r => ⟨i, r, z F1 H1 x1 w1⟩)
def SlN (μ : Md) (r : V → Option Int → Option Int → Hp → VK → Prop) (Ra : Rp α) (R : Rp γ) (mf : α → Option Int → Option Int → M (List γ)) : Prop := ∀ (k : Cn) (F H : Hp) (c : Nat) (x : V) (a : α) (lo hi : Option Int) (Q : VK), Wo k F H c → Ra.r F x a → (mf a lo hi).wp c (VN k F H R Q) (XP μ k) → r x lo hi H Q
def SlS (μ : Md) (r : V → Option Int → Option Int → Hp → VK → Prop) (Ra : Rp α) (R : Rp γ) (mf : α → Option Int → Option Int → M γ) : Prop := ∀ (k : Cn) (F H : Hp) (c : Nat) (x : V) (a : α) (lo hi : Option Int) (Q : VK), Wo k F H c → Ra.r F x a → (mf a lo hi).wp c (VP k F H R Q) (XP μ k) → r x lo hi H Q
theorem n_sl {r : V → Option Int → Option Int → Hp → VK → Prop} {te : TE} {tl th : TO} {m : Γ → M α} {ml mh : Γ → M (Option Int)} {mf : α → Option Int → Option Int → M (List γ)} (hr : SlN μ r Ra R mf) (he : SE μ E Ra te m) (hl : SO μ E tl ml) (hh : SO μ E th mh) :
    SN μ E R (tSl r te tl th) fun ρ => (m ρ).bind fun a => (ml ρ).bind fun lo => (mh ρ).bind fun hi => mf a lo hi := fun k F H σ ρ c Q w e h =>
  he k F H σ ρ c _ w e (wp_imp h fun a c1 q v F1 H1 x1 w1 r1 => hl k F1 H1 σ ρ c1 _ w1 (e.step x1) (wp_imp q fun lo c2 q F2 H2 x2 w2 => hh k F2 H2 σ ρ c2 _ w2 (e.step (x1.trans x2)) (wp_imp q fun hi c3 q F3 H3 x3 w3 =>
    hr k F3 H3 c3 v a lo hi Q w3 (Ra.st (x2.fz.trans x3.fz) r1) (wp_imp q fun _ _ z => VN.ext ((x1.trans x2).trans x3) z))))
theorem e_sl {r : V → Option Int → Option Int → Hp → VK → Prop} {te : TE} {tl th : TO} {m : Γ → M α} {ml mh : Γ → M (Option Int)} {mf : α → Option Int → Option Int → M γ} (hr : SlS μ r Ra R mf) (he : SE μ E Ra te m) (hl : SO μ E tl ml) (hh : SO μ E th mh) :
    SE μ E R (tSl r te tl th) fun ρ => (m ρ).bind fun a => (ml ρ).bind fun lo => (mh ρ).bind fun hi => mf a lo hi := fun k F H σ ρ c Q w e h =>
  he k F H σ ρ c _ w e (wp_imp h fun a c1 q v F1 H1 x1 w1 r1 => hl k F1 H1 σ ρ c1 _ w1 (e.step x1) (wp_imp q fun lo c2 q F2 H2 x2 w2 => hh k F2 H2 σ ρ c2 _ w2 (e.step (x1.trans x2)) (wp_imp q fun hi c3 q F3 H3 x3 w3 =>
    hr k F3 H3 c3 v a lo hi Q w3 (Ra.st (x2.fz.trans x3.fz) r1) (wp_imp q fun _ _ z => VP.ext ((x1.trans x2).trans x3) z))))
/-- xs[lo:hi] -/
def cutL (xs : List α) (lo hi : Option Int) : List α := (xs.drop (HT.sIx xs.length 0 lo)).take (HT.sIx xs.length xs.length hi - HT.sIx xs.length 0 lo)
theorem All2.cut {f : V → α → Prop} {vs : List V} {xs : List α} (h : All2 f vs xs) (lo hi : Option Int) : All2 f (cutV vs lo hi) (cutL xs lo hi) := by
  unfold cutV cutL
  rw [h.len]
  exact (h.drop _).take _
theorem sl_L : SlN μ (rSlL K) (rLs Ra) Ra fun xs lo hi => .ret (cutL xs lo hi) := fun k F H c x xs lo hi Q w ⟨p, vs, e, hp, al⟩ q => ⟨p, vs, e, .of (w.sub _ _ hp), fun l n => VN.newL w q n (al.cut lo hi)⟩
theorem sl_Lst : SlN μ (rSlL K) (rLst K Ra) Ra fun xs lo hi => .ret (cutL xs lo hi) := fun k F H c x xs lo hi Q w ⟨p, vs, e, hp, al⟩ q => ⟨p, vs, e, w.sub.seq hp, fun l n => VN.newL w q n (al.cut lo hi)⟩
theorem cutL_whole {xs : List α} {lo hi : Option Int} (h : HT.sIx xs.length 0 lo = 0 ∧ HT.sIx xs.length xs.length hi = xs.length) : cutL xs lo hi = xs := by
  unfold cutL
  rw [h.1, h.2, List.drop_zero, Nat.sub_zero, List.take_length]
theorem sl_T : SlS μ (rSlA K) (rTup K Ra) (rTup K Ra) fun xs lo hi => .ret (cutL xs lo hi) := fun k F H c x xs lo hi Q w r q => by
  have r' := r
  obtain ⟨p, vs, e, hp, al⟩ := r'
  refine ⟨p, vs, e, same_seqT w.sub hp, fun z => ?_, fun z l n => VP.newT w q n fun s => ⟨l, _, rfl, .of upd_same, (al.cut lo hi).imp fun _ _ g => Ra.st s g⟩⟩
  rw [al.len] at z
  rw [← e]
  refine VP.now w q ?_
  rw [cutL_whole z]
  exact r
theorem sl_S : SlS μ rSlS rStr rStr fun z lo hi => .need (z.length ≤ sizeLine) (.ret (cutS z lo hi)) := fun k F H c x z lo hi Q w r q => ⟨z, r, q.1, VP.now w q.2 rfl⟩
/-! ### + * in -/
theorem o_catL : OpN μ rCat (rLs Ra) (rLs Ra) Ra fun xs ys => .need (xs.length + ys.length ≤ sizeLine) (.ret (xs ++ ys)) := fun k F H c x y xs ys Q w ⟨p, vs, e, hp, al⟩ ⟨p2, vs2, e2, hp2, al2⟩ q =>
  ⟨p, p2, vs, vs2, e, e2, w.sub _ _ hp, w.sub _ _ hp2, by rw [al.len, al2.len]; exact q.1, fun l n => VN.newL w q.2 n (al.append al2)⟩
theorem all2_nil {f : V → α → Prop} {xs : List α} (h : All2 f [] xs) : xs = [] := by cases h; rfl
theorem o_catT : OpS μ (rCatA K) (rTup K Ra) (rTup K Ra) (rTup K Ra) fun xs ys => .need (xs.length + ys.length ≤ sizeLine) (.ret (xs ++ ys)) := fun k F H c x y xs ys Q w r r2 q => by
  have r' := r
  have r2' := r2
  obtain ⟨p, vs, e, hp, al⟩ := r'
  obtain ⟨p2, vs2, e2, hp2, al2⟩ := r2'
  refine ⟨p, p2, vs, vs2, e, e2, same_seqT w.sub hp, same_seqT w.sub hp2, by rw [al.len, al2.len]; exact q.1, fun z => ?_, fun z1 z => ?_, fun z1 z2 l n => VP.newT w q.2 n fun s => ⟨l, _, rfl, .of upd_same, (al.append al2).imp fun _ _ g => Ra.st s g⟩⟩
  · subst z
    rw [← e2]
    refine VP.now w q.2 ?_
    rw [all2_nil al]; exact r2
  · subst z
    rw [← e]
    refine VP.now w q.2 ?_
    rw [all2_nil al2, List.append_nil]; exact r
theorem o_addS : OpS μ (fun x y H Q => ∃ i j, x = .str i ∧ y = .str j ∧ i.length + j.length ≤ sizeLine ∧ Q (.str (i ++ j)) H) rStr rStr rStr fun a b => .need (a.length + b.length ≤ sizeLine) (.ret (a ++ b)) := fun k F H c x y a b Q w r r2 q => ⟨a, b, r, r2, q.1, VP.now w q.2 rfl⟩
structure FlR (R : Rp α) [DecidableEq α] : Prop where
  fl : ∀ {F : Hp} {v : V} {a : α}, R.r F v a → flatV v = true
  eq : ∀ {F : Hp} {v w : V} {a b : α}, R.r F v a → R.r F w b → eqV v w = decide (a = b)
theorem fl_int : FlR rInt := ⟨fun h => by subst h; rfl, fun h k => by subst h k; rfl⟩
theorem fl_str : FlR rStr := ⟨fun h => by subst h; rfl, fun {_ _ _ a b} h k => by subst h k; show (a == b) = decide (a = b); by_cases z : a = b <;> simp [z]⟩
theorem in_all [DecidableEq α] (fl : FlR Ra) {F : Hp} {v : V} {a : α} (h : Ra.r F v a) {vs : List V} {xs : List α} (al : All2 (Ra.r F) vs xs) : vs.all flatV = true ∧ inV v vs = decide (a ∈ xs) := by
  induction al with
  | nil => exact ⟨rfl, by simp [inV]⟩
  | @cons u b us bs hu _ ih =>
    refine ⟨by rw [List.all_cons, fl.fl hu, ih.1]; rfl, ?_⟩
    show (eqV u v || inV v us) = decide (a ∈ b :: bs)
    rw [ih.2, fl.eq hu h]
    by_cases z : b = a
    · subst z; simp
    · simp [z, Ne.symm z]
theorem o_in [DecidableEq α] (fl : FlR Ra) {Rl : Rp (List α)} (hl : ∀ {F H : Hp} {v : V} {xs : List α}, Same F H → Rl.r F v xs → ∃ p vs, v = .ref p ∧ (SqL K H p vs ∨ SqT K H p vs) ∧ All2 (Ra.r F) vs xs) : OpS μ (rIn K false) Ra Rl rBl fun a xs => .ret (decide (a ∈ xs)) := fun k F H c x y a xs Q w r r2 q => by
  obtain ⟨p, vs, e, hp, al⟩ := hl w.sub r2
  obtain ⟨h1, h2⟩ := in_all fl r al
  exact ⟨p, vs, e, hp, fl.fl r, h1, VP.now w q (by show V.bl _ = V.bl _; rw [if_neg Bool.false_ne_true, h2])⟩
theorem o_notIn [DecidableEq α] (fl : FlR Ra) {Rl : Rp (List α)} (hl : ∀ {F H : Hp} {v : V} {xs : List α}, Same F H → Rl.r F v xs → ∃ p vs, v = .ref p ∧ (SqL K H p vs ∨ SqT K H p vs) ∧ All2 (Ra.r F) vs xs) : OpS μ (rIn K true) Ra Rl rBl fun a xs => .ret (!decide (a ∈ xs)) := fun k F H c x y a xs Q w r r2 q => by
  obtain ⟨p, vs, e, hp, al⟩ := hl w.sub r2
  obtain ⟨h1, h2⟩ := in_all fl r al
  exact ⟨p, vs, e, hp, fl.fl r, h1, VP.now w q (by show V.bl _ = V.bl _; rw [if_pos rfl, h2])⟩
theorem sq_ls {F H : Hp} {v : V} {xs : List α} (s : Same F H) (h : (rLs Ra).r F v xs) : ∃ p vs, v = .ref p ∧ (SqL K H p vs ∨ SqT K H p vs) ∧ All2 (Ra.r F) vs xs := by
  obtain ⟨p, vs, e, hp, al⟩ := h
  exact ⟨p, vs, e, .inl (.of (s _ _ hp)), al⟩
theorem sq_tup {F H : Hp} {v : V} {xs : List α} (s : Same F H) (h : (rTup K Ra).r F v xs) : ∃ p vs, v = .ref p ∧ (SqL K H p vs ∨ SqT K H p vs) ∧ All2 (Ra.r F) vs xs := by
  obtain ⟨p, vs, e, hp, al⟩ := h
  exact ⟨p, vs, e, .inr (same_seqT s hp), al⟩
/-! ### lists of one's own, written and read -/
theorem tyL {p : Addr} {vs : List V} {H : Hp} (h : H p = some (.lst vs)) : tyV K "list" (.ref p) H := .inl ⟨rfl, vs, .of h⟩
/-- xs.append(e) -/
theorem s_append {i : Nat} {g : Γ → List α} {put : Γ → List α → Γ} {te : TE} {m : Γ → M α} (hm : ModS E i Ra g put) (he : SE μ E Ra te m) :
    SS μ E E El R (tDrop (tBM K "list" rAppend (tVar i) (tCons te tNil))) fun ρ => (m ρ).bind fun a => .need ((g ρ).length < sizeLine) (.ret (.nx (put ρ (g ρ ++ [a])))) := fun k F H σ ρ c D w e h => by
  obtain ⟨p, vs, h1, h2, h3, h4⟩ := hm.get e.r
  obtain ⟨_, f0, n0, np⟩ := E.has e.r h4
  refine ⟨.ref p, h1, tyL h2, he k F H σ ρ c _ w e (wp_imp h fun a c1 ⟨q1, q⟩ v F1 H1 x1 w1 r1 => ?_)⟩
  have hp1 := x1.hp p _ np h2
  have f1 : F1 p = none := (x1.old p _ h2 rfl).trans f0
  have al := h3.imp fun _ _ g => Ra.st x1.fz g
  refine ⟨p, vs, v, rfl, rfl, hp1, by rw [h3.len]; exact q1, q F1 _ σ x1.fz (w1.mod n0 f1) ⟨hm.mod (E.step x1 e.r) e.nd h1 (al.snoc r1), e.nd⟩⟩
/-- xs[i] = e -/
theorem s_setitem {i : Nat} {g : Γ → List α} {put : Γ → List α → Γ} {te ti : TE} {m : Γ → M α} {mi : Γ → M Int} (hm : ModS E i Ra g put) (he : SE μ E Ra te m) (hi : SE μ E rInt ti mi) :
    SS μ E E El R (tAsg te (gSub (tVar i) ti rSetL)) fun ρ => (m ρ).bind fun a => (mi ρ).bind fun j => .bind (.the (ixN (g ρ).length j)) fun n => .ret (.nx (put ρ ((g ρ).set n a))) := fun k F H σ ρ c D w e h => by
  refine he k F H σ ρ c _ w e (wp_imp h fun a c1 q v F1 H1 x1 w1 r1 => ?_)
  have e1 := e.step x1
  obtain ⟨p, vs, h1, h2, h3, h4⟩ := hm.get e1.r
  obtain ⟨_, f0, n0, np⟩ := E.has e1.r h4
  refine ⟨.ref p, h1, hi k F1 H1 σ ρ c1 _ w1 e1 (wp_imp q fun j c2 ⟨n, en, q⟩ u F2 H2 x2 w2 r2 => ?_)⟩
  have hp2 := x2.hp p _ np h2
  have f2 : F2 p = none := (x2.old p _ h2 rfl).trans f0
  have al := h3.imp fun _ _ g => Ra.st x2.fz g
  exact ⟨p, vs, j, n, rfl, r2, hp2, by rw [h3.len]; exact en, q F2 _ σ (x1.fz.trans x2.fz) (w2.mod n0 f2) ⟨hm.mod (E.step x2 e1.r) e.nd h1 (al.set n (Ra.st x2.fz r1)), e.nd⟩⟩
/-- x = xs.pop(i) -/
theorem s_popAt {i j : Nat} {g : Γ → List α} {put : Γ → List α → Γ} {put' : Γ → α → Γ'} {ti : TE} {mi : Γ → M Int} (hm : ModS E i Ra g put) (hi : SE μ E rInt ti mi) (hp : PutS E j (sVal Ra) E' put') :
    SS μ E E' El R (tAsg (tBM K "list" rPopAt (tVar i) (tCons ti tNil)) (gName j)) fun ρ => (mi ρ).bind fun n => .need ((g ρ).length ≤ 2 ^ 62 ∧ 0 ≤ n) (.bind (.the (g ρ)[n.toNat]?) fun a => .ret (.nx (put' (put ρ ((g ρ).eraseIdx n.toNat)) a))) := fun k F H σ ρ c D w e h => by
  obtain ⟨p, vs, h1, h2, h3, h4⟩ := hm.get e.r
  obtain ⟨_, f0, n0, np⟩ := E.has e.r h4
  refine ⟨.ref p, h1, tyL h2, hi k F H σ ρ c _ w e (wp_imp h fun n c1 ⟨⟨q1, q2⟩, a, ea, q⟩ v F1 H1 x1 w1 r1 => ?_)⟩
  have hp1 := x1.hp p _ np h2
  have f1 : F1 p = none := (x1.old p _ h2 rfl).trans f0
  have al := h3.imp fun _ _ g => Ra.st x1.fz g
  obtain ⟨u, hu, ru⟩ := al.get ea
  have hn : n.toNat < (g ρ).length := (List.getElem?_eq_some_iff.mp ea).1
  have sq : seqIndex? n vs.length = some n.toNat := seqIndex_of q2 (by rw [h3.len]; omega)
  have e1 : EI k E F1 (upd H1 p (.lst (vs.eraseIdx n.toNat))) σ (put ρ ((g ρ).eraseIdx n.toNat)) := ⟨hm.mod (E.step x1 e.r) e.nd h1 (al.erase _), e.nd⟩
  refine ⟨p, vs, n, n.toNat, u, rfl, by rw [r1], hp1, by omega, by omega, sq, hu, ?_⟩
  exact q F1 _ _ x1.fz (w1.mod n0 f1) ⟨hp.put e1.r ⟨u, rfl, ru⟩, hp.nd e1.nd fun _ z => nomatch z⟩
/-- xs.append(ys.pop(i)) -/
theorem s_appendPop {i j : Nat} {g g' : Γ → List α} {put put' : Γ → List α → Γ} {ti : TE} {mi : Γ → M Int} (hm : ModS E i Ra g put) (hm' : ModS E j Ra g' put') (hgg : ∀ ρ xs, g (put' ρ xs) = g ρ) (hi : SE μ E rInt ti mi) :
    SS μ E E El R (tDrop (tBM K "list" rAppend (tVar i) (tCons (tBM K "list" rPopAt (tVar j) (tCons ti tNil)) tNil))) fun ρ => (mi ρ).bind fun n => .need ((g' ρ).length ≤ 2 ^ 62 ∧ 0 ≤ n) (.bind (.the (g' ρ)[n.toNat]?) fun a => .need ((g ρ).length < sizeLine) (.ret (.nx (put (put' ρ ((g' ρ).eraseIdx n.toNat)) (g ρ ++ [a]))))) := fun k F H σ ρ c D w e h => by
  obtain ⟨p0, vs0, h01, h02, h03, h04⟩ := hm.get e.r
  obtain ⟨p, vs, h1, h2, h3, h4⟩ := hm'.get e.r
  obtain ⟨_, f0, n0, np⟩ := E.has e.r h4
  refine ⟨.ref p0, h01, tyL h02, .ref p, h1, tyL h2, hi k F H σ ρ c _ w e (wp_imp h fun n c1 ⟨⟨q1, q2⟩, a, ea, q3, q⟩ v F1 H1 x1 w1 r1 => ?_)⟩
  have hp1 := x1.hp p _ np h2
  have f1 : F1 p = none := (x1.old p _ h2 rfl).trans f0
  have al := h3.imp fun _ _ g => Ra.st x1.fz g
  obtain ⟨u, hu, ru⟩ := al.get ea
  have hn : n.toNat < (g' ρ).length := (List.getElem?_eq_some_iff.mp ea).1
  have sq : seqIndex? n vs.length = some n.toNat := seqIndex_of q2 (by rw [h3.len]; omega)
  have e1 : EI k E F1 (upd H1 p (.lst (vs.eraseIdx n.toNat))) σ (put' ρ ((g' ρ).eraseIdx n.toNat)) := ⟨hm'.mod (E.step x1 e.r) e.nd h1 (al.erase _), e.nd⟩
  have w2 := w1.mod (o := .lst (vs.eraseIdx n.toNat)) n0 f1
  refine ⟨p, vs, n, n.toNat, u, rfl, by rw [r1], hp1, by omega, by omega, sq, hu, ?_⟩
  obtain ⟨p2, vs2, g1, g2, g3, g4⟩ := hm.get e1.r
  obtain ⟨_, f2, n2, _⟩ := E.has e1.r g4
  rw [h01] at g1
  obtain rfl : p0 = p2 := by cases g1; rfl
  rw [hgg] at g3
  refine ⟨p0, vs2, u, rfl, rfl, g2, by rw [g3.len]; exact q3, q F1 _ σ x1.fz (w2.mod n2 f2) ⟨hm.mod e1.r e.nd h01 (g3.snoc ru), e.nd⟩⟩
/-- a, b = e, f -/
theorem s_par {i j : Nat} {ta tb : TE} {ma : Γ → M α} {mb : Γ → M β} {put : Γ → α → Γ'} {put' : Γ' → β → Γ''} (ha : SE μ E Ra ta ma) (hb : SE μ E Rb tb mb) (hp : PutS E i (sVal Ra) E' put) (hp' : PutS E' j (sVal Rb) E'' put') :
    SS μ E E'' El R (tPar i j (tCons ta (tCons tb tNil))) fun ρ => (ma ρ).bind fun a => (mb ρ).bind fun b => .ret (.nx (put' (put ρ a) b)) := fun k F H σ ρ c D w e h =>
  ha k F H σ ρ c _ w e (wp_imp h fun a c1 q v F1 H1 x1 w1 r1 => hb k F1 H1 σ ρ c1 _ w1 (e.step x1) (wp_imp q fun b c2 q u F2 H2 x2 w2 r2 => by
    have e2 := (e.step x1).step x2
    have e3 : EI k E' F2 H2 (σ.set i (some v)) (put ρ a) := ⟨hp.put e2.r ⟨v, rfl, Ra.st x2.fz r1⟩, hp.nd e2.nd fun _ z => nomatch z⟩
    exact ⟨v, u, rfl, q F2 H2 _ (x1.fz.trans x2.fz) w2 ⟨hp'.put e3.r ⟨u, rfl, r2⟩, hp'.nd e3.nd fun _ z => nomatch z⟩⟩))
/-- what is stored: a value, or a new list of one's own -/
def SV (μ : Md) (E : EV Γ) (S : SR α) (te : TE) (m : Γ → M α) : Prop := ∀ (k : Cn) (F H : Hp) (σ : L2.St) (ρ : Γ) (c : Nat) (Q : VK), Wo k F H c → EI k E F H σ ρ →
  (m ρ).wp c (fun a c' => ∀ v F' H', ExtX k.p F H F' H' → Wo k F' H' c' → S.r k.p k.H0 F' H' (some v) a → (∀ D, S.own (some v) = some D → H D = none) → Q v H') (XP μ k) → te σ H Q
theorem sv_e {te : TE} {m : Γ → M α} (h : SE μ E Ra te m) : SV μ E (sVal Ra) te m := fun k F H σ ρ c Q w e q => h k F H σ ρ c Q w e (wp_imp q fun _ _ z v F' H' x w' r => z v F' H' x w' ⟨v, rfl, r⟩ fun _ z => nomatch z)
theorem sv_n {te : TE} {m : Γ → M (List α)} (h : SN μ E Ra te m) : SV μ E (sOwn Ra) te m := fun k F H σ ρ c Q w e q => h k F H σ ρ c Q w e (wp_imp q fun _ _ z D vs F' H' x w' n n0 hD f t => z _ F' H' x w' ⟨D, vs, rfl, hD, t, f, n0, w'.np n0⟩ fun D' z => by cases z; exact n)
theorem s_parV {S : SR α} {T : SR β} {i j : Nat} {ta tb : TE} {ma : Γ → M α} {mb : Γ → M β} {put : Γ → α → Γ'} {put' : Γ' → β → Γ''} (ha : SV μ E S ta ma) (hb : SV μ E T tb mb) (hp : PutS E i S E' put) (hp' : PutS E' j T E'' put') :
    SS μ E E'' El R (tPar i j (tCons ta (tCons tb tNil))) fun ρ => (ma ρ).bind fun a => (mb ρ).bind fun b => .ret (.nx (put' (put ρ a) b)) := fun k F H σ ρ c D w e h =>
  ha k F H σ ρ c _ w e (wp_imp h fun a c1 q v F1 H1 x1 w1 r1 o1 => hb k F1 H1 σ ρ c1 _ w1 (e.step x1) (wp_imp q fun b c2 q u F2 H2 x2 w2 r2 o2 => by
    have e2 := (e.step x1).step x2
    have r1' := S.step x2 r1
    have e3 : EI k E' F2 H2 (σ.set i (some v)) (put ρ a) := ⟨hp.put e2.r r1', hp.nd e2.nd fun D' z y => absurd (o1 D' z) (E.has e.r y).1⟩
    refine ⟨v, u, rfl, q F2 H2 _ (x1.fz.trans x2.fz) w2 ⟨hp'.put e3.r r2, hp'.nd e3.nd fun D' z y => ?_⟩⟩
    have n1 := o2 D' z
    rcases hp.sub y with y | y
    · exact absurd n1 ((E.has (e.step x1).r y).1)
    · exact absurd n1 (S.has r1 y).1))
/-- x += e -/
theorem s_aug {i : Nat} {f : Int → Int → Int} {te : TE} {me : Γ → M Int} {g : Γ → Int} {put : Γ → Int → Γ} (hg : GetS E i (sVal rInt) g) (he : SE μ E rInt te me) (hp : PutS E i (sVal rInt) E put) : SS μ E E El R (tAug i te (ipI f)) fun ρ => (me ρ).bind fun a => .ret (.nx (put ρ (f (g ρ) a))) := fun k F H σ ρ c D w e h => by
  obtain ⟨o, h1, v, rfl, r⟩ := hg.get e.r
  refine ⟨v, h1, he k F H σ ρ c _ w e (wp_imp h fun a c1 q u F1 H1 x1 w1 r1 => ?_)⟩
  have e1 := e.step x1
  exact ⟨g ρ, a, r, r1, q F1 H1 _ x1.fz w1 ⟨hp.put e1.r ⟨_, rfl, rfl⟩, hp.nd e1.nd fun _ z => nomatch z⟩⟩
/-- a list of one's own, read: its length, an item -/
theorem e_lenO {i : Nat} {g : Γ → List α} {put : Γ → List α → Γ} (hm : ModS E i Ra g put) : SE μ E rInt (tCB (fun xs H Q => ∃ x n, xs = [x] ∧ LenV K x H n ∧ Q (.int n) H) (tCons (tVar i) tNil)) fun ρ => .ret ((g ρ).length : Int) := fun k F H σ ρ c Q w e q => by
  obtain ⟨p, vs, h1, h2, h3, h4⟩ := hm.get e.r
  exact ⟨.ref p, h1, .ref p, (g ρ).length, rfl, .inl ⟨vs, .of h2, h3.len.symm⟩, VP.now w q rfl⟩
theorem e_ixO {i : Nat} {g : Γ → List α} {put : Γ → List α → Γ} {ti : TE} {mi : Γ → M Int} (hm : ModS E i Ra g put) (hi : SE μ E rInt ti mi) : SE μ E Ra (tOp (rIxL K) (tVar i) ti) fun ρ => (mi ρ).bind fun j => .the (atI (g ρ) j) := fun k F H σ ρ c Q w e h => by
  obtain ⟨p, vs, h1, h2, h3, h4⟩ := hm.get e.r
  obtain ⟨_, f0, n0, np⟩ := E.has e.r h4
  refine ⟨.ref p, h1, hi k F H σ ρ c _ w e (wp_imp h fun j c1 ⟨a, ea, q⟩ u F1 H1 x1 w1 r1 => ?_)⟩
  have al := h3.imp fun _ _ g => Ra.st x1.fz g
  obtain ⟨v, hv, r⟩ : ∃ v, atI vs j = some v ∧ Ra.r F1 v a := by
    unfold atI at ea ⊢
    rw [al.len]
    cases z : ixN (g ρ).length j with
    | none => rw [z] at ea; cases ea
    | some n => rw [z] at ea; exact al.get ea
  exact ⟨p, vs, j, v, rfl, r1, .of (x1.hp p _ np h2), hv, q v F1 H1 x1 w1 r⟩
end
end PF

set_option Elab.async false
set_option linter.all false
set_option maxRecDepth 100000
set_option maxHeartbeats 400000
namespace PF
open PySem PySem.Spec PyProof.Rows L2 SlX
namespace M
section
variable {α β γ Γ Γ' Δ : Type} {c : Nat} {Q : α → Nat → Prop} {X : Er → Prop}
theorem ret_wp {a : α} : (M.ret a).wp c Q X = Q a c := id rfl
theorem bind_wp {m : M β} {f : β → M α} : (M.bind m f).wp c Q X = m.wp c (fun a d => (f a).wp d Q X) X := id rfl
theorem need_wp {p : Prop} {m : M α} : (M.need p m).wp c Q X = (p ∧ m.wp c Q X) := id rfl
theorem the_wp {o : Option α} : (M.the o).wp c Q X = ∃ a, o = some a ∧ Q a c := id rfl
theorem ifb_wp {b : Bool} {m n : M α} : (M.ifb b m n).wp c Q X = if b = true then m.wp c Q X else n.wp c Q X := id rfl
theorem anyOf_wp {P : α → Prop} : (M.anyOf P).wp c Q X = ∀ a, P a → Q a c := id rfl
theorem still_wp {m : M α} : (M.still m).wp c Q X = m.wp 0 (fun a _ => Q a c) X := id rfl
theorem roll_wp {t : Int} {Q : Int → Nat → Prop} : (M.roll t).wp c Q X = (c < 2 ^ 60 ∧ 0 < t ∧ Bd 9000 t ∧ ∀ r, 0 ≤ r → r < t → Q r (c + 1)) := id rfl
theorem pick_wp {xs : List α} : (M.pick xs).wp c Q X = (c < 2 ^ 60 ∧ 0 < xs.length ∧ xs.length ≤ 1000 ∧ ∀ x ∈ xs, Q x (c + 1)) := id rfl
theorem thn_wp {m : M (Ct Γ Δ β)} {f : Γ → M (Ct Γ' Δ β)} {Q : Ct Γ' Δ β → Nat → Prop} : (M.thn m f).wp c Q X = m.wp c (fun k d => (thnK f k).wp d Q X) X := id rfl
theorem thn_nx {f : Γ → M (Ct Γ' Δ β)} {ρ : Γ} : thnK f (.nx ρ) = f ρ := id rfl
theorem thn_rt {f : Γ → M (Ct Γ' Δ β)} {b : β} : thnK f (.rt b) = .ret (.rt b) := id rfl
theorem thn_bk {f : Γ → M (Ct Γ' Δ β)} {d : Δ} : thnK f (.bk d) = .ret (.bk d) := id rfl
theorem thn_ct {f : Γ → M (Ct Γ' Δ β)} {d : Δ} : thnK f (.ct d) = .ret (.ct d) := id rfl
theorem fin_wp {m : M (Ct Γ Unit β)} {Q : β → Nat → Prop} : (M.fin m).wp c Q X = m.wp c (fun k d => (finK k).wp d Q X) X := id rfl
theorem fin_rt {b : β} : finK (Γ := Γ) (.rt b) = .ret b := id rfl
theorem fin_nx {ρ : Γ} : finK (β := β) (.nx ρ) = M.none := id rfl
theorem finN_wp {m : M (Ct Γ Unit Unit)} {Q : Unit → Nat → Prop} : (M.finN m).wp c Q X = m.wp c (fun k d => (finNK k).wp d Q X) X := id rfl
theorem finN_rt {b : Unit} : finNK (Γ := Γ) (.rt b) = .ret b := id rfl
theorem finN_nx {ρ : Γ} : finNK (.nx ρ) = .ret () := id rfl
theorem none_wp : (M.none : M α).wp c Q X = False := id rfl
/-- weaken the end -/
theorem wk {m : M α} {Q Q' : α → Nat → Prop} (h : m.wp c Q X) (k : ∀ a d, Q a d → Q' a d) : m.wp c Q' X := m.mono c k (fun _ z => z) h
/-- behind a turn -/
def FK (I : Γ → Nat → Prop) (Q : Ct Γ Δ β → Nat → Prop) : Ct Γ Γ β → Nat → Prop
  | .nx ρ, d => I ρ d
  | .ct ρ, d => I ρ d
  | .bk ρ, d => Q (.nx ρ) d
  | .rt b, d => Q (.rt b) d
theorem FK_nx {I : Γ → Nat → Prop} {Q : Ct Γ Δ β → Nat → Prop} {ρ : Γ} {d : Nat} : FK I Q (.nx ρ) d = I ρ d := id rfl
theorem FK_ct {I : Γ → Nat → Prop} {Q : Ct Γ Δ β → Nat → Prop} {ρ : Γ} {d : Nat} : FK I Q (.ct ρ) d = I ρ d := id rfl
theorem FK_bk {I : Γ → Nat → Prop} {Q : Ct Γ Δ β → Nat → Prop} {ρ : Γ} {d : Nat} : FK I Q (.bk ρ) d = Q (.nx ρ) d := id rfl
theorem FK_rt {I : Γ → Nat → Prop} {Q : Ct Γ Δ β → Nat → Prop} {b : β} {d : Nat} : FK I Q (.rt b) d = Q (.rt b) d := id rfl
theorem forM_inv {xs : List α} {f : α → Γ → M (Ct Γ Γ β)} {Q : Ct Γ Δ β → Nat → Prop} (I : Nat → Γ → Nat → Prop) {ρ : Γ} (h0 : I 0 ρ c)
    (hs : ∀ i a ρ c, xs[i]? = some a → I i ρ c → (f a ρ).wp c (fun k d => FK (I (i + 1)) Q k d) X) (hd : ∀ ρ c, I xs.length ρ c → Q (.nx ρ) c) : (M.forM (Δ := Δ) xs f ρ).wp c Q X := by
  induction xs generalizing ρ c I with
  | nil => rw [forM_nil]; exact hd ρ c h0
  | cons x xs ih =>
    rw [forM_cons]
    show (f x ρ).wp c (fun k d => (forK (fun ρ' => M.forM (Δ := Δ) xs f ρ') k).wp d Q X) X
    refine wk (hs 0 x ρ c rfl h0) fun k d z => ?_
    have go : ∀ ρ', I 1 ρ' d → (M.forM (Δ := Δ) xs f ρ').wp d Q X := fun ρ' z => ih (fun i => I (i + 1)) z (fun i a ρ c h => hs (i + 1) a ρ c (by simpa using h)) hd
    cases k with
    | nx ρ' => exact go ρ' z
    | ct ρ' => exact go ρ' z
    | bk ρ' => exact z
    | rt b => exact z
theorem lcM_inv {xs : List α} {f : α → M (Option β)} {Q : List β → Nat → Prop} (I : Nat → List β → Nat → Prop) (h0 : I 0 [] c)
    (hs : ∀ i a ys c, xs[i]? = some a → I i ys c → (f a).wp c (fun o d => I (i + 1) (ys ++ o.toList) d) X) (hd : ∀ ys c, I xs.length ys c → Q ys c) : (M.lcM xs f).wp c Q X := by
  have gen : ∀ (xs : List α) (I : Nat → List β → Nat → Prop) (ys : List β) (c : Nat) (Q : List β → Nat → Prop), I 0 ys c → (∀ i a ys c, xs[i]? = some a → I i ys c → (f a).wp c (fun o d => I (i + 1) (ys ++ o.toList) d) X) →
      (∀ zs c, I xs.length (ys ++ zs) c → Q zs c) → (M.lcM xs f).wp c Q X := by
    intro xs
    induction xs with
    | nil => intro I ys c Q h0 hs hd; rw [lcM_nil]; exact hd [] c (by simpa using h0)
    | cons x xs ih =>
      intro I ys c Q h0 hs hd
      rw [lcM_cons]
      show (f x).wp c (fun o d => (M.lcM xs f).wp d (fun zs e => Q (o.toList ++ zs) e) X) X
      refine wk (hs 0 x ys c rfl h0) fun o d z => ?_
      refine ih (fun i => I (i + 1)) (ys ++ o.toList) d _ z (fun i a ys c h => hs (i + 1) a ys c (by simpa using h)) fun zs e h => ?_
      exact hd _ e (by rw [← List.append_assoc]; exact h)
  exact gen xs I [] c Q h0 hs fun zs c h => hd zs c (by simpa using h)
/-- a comprehension that reckons each item by itself -/
theorem lcM_map {xs : List α} {f : α → M (Option β)} {g : α → β} {Q : List β → Nat → Prop} (hs : ∀ a ∈ xs, ∀ Q : Option β → Nat → Prop, Q (some (g a)) c → (f a).wp c Q X) (hq : Q (xs.map g) c) : (M.lcM xs f).wp c Q X := by
  refine lcM_inv (fun i ys d => d = c ∧ ys = (xs.take i).map g) ⟨rfl, by simp⟩ (fun i a ys d h ⟨e, ey⟩ => ?_) fun ys d ⟨e, ey⟩ => ?_
  · subst e
    refine hs a (List.mem_of_getElem? h) _ ⟨rfl, ?_⟩
    have hl := (List.getElem?_eq_some_iff.mp h)
    obtain ⟨hl, ha⟩ := hl
    rw [List.take_succ, h, ey]; simp
  · subst e
    rw [List.take_length] at ey
    rw [ey]; exact hq
/-- .. and drops some -/
theorem lcM_filter {xs : List α} {f : α → M (Option β)} {g : α → Option β} {Q : List β → Nat → Prop} (hs : ∀ a ∈ xs, ∀ Q : Option β → Nat → Prop, Q (g a) c → (f a).wp c Q X) (hq : Q (xs.filterMap g) c) : (M.lcM xs f).wp c Q X := by
  refine lcM_inv (fun i ys d => d = c ∧ ys = (xs.take i).filterMap g) ⟨rfl, by simp⟩ (fun i a ys d h ⟨e, ey⟩ => ?_) fun ys d ⟨e, ey⟩ => ?_
  · subst e
    refine hs a (List.mem_of_getElem? h) _ ⟨rfl, ?_⟩
    rw [List.take_succ, h, ey]
    simp only [Option.toList, List.filterMap_append]
    cases e : g a <;> simp [e]
  · subst e
    rw [List.take_length] at ey
    rw [ey]; exact hq
end
end M
theorem rng_len {lo hi : Int} : (rng lo hi).length = (hi - lo).toNat := by rw [rng_eq, List.length_map, List.length_range]
theorem rng_mem {lo hi a : Int} : a ∈ rng lo hi ↔ lo ≤ a ∧ a < hi := by
  rw [rng_eq]
  simp only [List.mem_map, List.mem_range]
  constructor
  · rintro ⟨i, hi, rfl⟩; omega
  · rintro ⟨h1, h2⟩; exact ⟨(a - lo).toNat, by omega, by omega⟩
end PF

set_option Elab.async false
set_option linter.all false
set_option maxRecDepth 100000
set_option maxHeartbeats 4000000
set_option exponentiation.threshold 20000
namespace PF
open PySem PySem.Spec PyProof.Rows L2 SlX
/-! ### the dice -/
def spDice (K : PySem.W.Frag) : Sp := fun vs H Q _ => ∃ (a : Addr) (ns : List Int) (s : Int), vs = [.ref a, .int s] ∧ SqL K H a (ns.map V.int) ∧ ns.length ≤ 100 ∧ 0 ≤ s ∧ s ≤ 100 ∧ ∀ p H', Same H H' → H p = none → Dice p H' 0 → Q (.ref p) H'
def spRoll : Sp := fun vs H Q _ => ∃ (p : Addr) (t : Int) (c : Nat), vs = [.ref p, .int t] ∧ Dice p H c ∧ c < 2 ^ 64 ∧ 0 < t ∧ Bd 9000 t ∧ ∀ r H', 0 ≤ r → r < t → SameB p H H' → Dice p H' (c + 1) → Q (.int r) H'
def spPick : Sp := fun vs H Q _ => ∃ (p l : Addr) (xs : List V) (c : Nat), vs = [.ref p, .ref l] ∧ Dice p H c ∧ c < 2 ^ 64 ∧ H l = some (.lst xs) ∧ l ≠ p ∧ 0 < xs.length ∧ xs.length ≤ 1000 ∧ ∀ v H', v ∈ xs → SameB p H H' → Dice p H' (c + 1) → Q v H'
theorem bd_le {i : Int} {n : Nat} (k : Nat) (h : i.natAbs ≤ k) (l : k < 2 ^ n) : Bd n i := Nat.lt_of_le_of_lt h l
theorem bd_mod {i j : Int} {n : Nat} (h : Bd n j) (j0 : 0 < j) : Bd n (i.fmod j) := by
  have e : i.fmod j = i % j := Int.fmod_eq_emod_of_nonneg i (by omega)
  have h1 := Int.emod_nonneg i (show j ≠ 0 by omega)
  have h2 := Int.emod_lt_of_pos i j0
  rw [e]
  exact h.le (by omega)
theorem fmod_range {i j : Int} (j0 : 0 < j) : 0 ≤ i.fmod j ∧ i.fmod j < j := by
  rw [Int.fmod_eq_emod_of_nonneg i (by omega)]
  exact ⟨Int.emod_nonneg i (by omega), Int.emod_lt_of_pos i j0⟩
theorem fdiv_abs {i j : Int} (i0 : 0 ≤ i) (j0 : 0 < j) : 0 ≤ i.fdiv j ∧ (i.fdiv j).natAbs ≤ i.natAbs := by
  rw [Int.fdiv_eq_ediv_of_nonneg i (by omega)]
  have h1 := Int.ediv_nonneg i0 (show 0 ≤ j by omega)
  have h2 := Int.ediv_le_self j i0
  omega
section
variable {P : Program} {w : World} {K : PySem.W.Frag} {mg : Str → Option Value} {base : Heap} {f : Addr} {fd : FuncData}
theorem sc__law_dice : FnScope ["_law_script", "_law_spot", "_law_cell", "_law_left"] ["_law_script", "_law_spot"] (defScope (topS 30)) := ⟨rfl, rfl, rfl, by decide +kernel, rfl, by decide +kernel, by decide +kernel⟩
theorem ok_dice (F : Fun K "_law_dice" "_law_dice" (topS 30) f fd) (fr : Free mg) : FnOk P w K mg base CX0 2 f fd ["_law_script", "_law_spot"] (spDice K) := by
  refine F.ok sc__law_dice (fun vs H Q E ⟨_, _, _, e, _⟩ => by rw [e]; rfl) (fun cdv A outer s H vs Q E hr h => ⟨_, (pss_cons (ps_set (i := 2) sc__law_dice.nd rfl (by first | exact Or.inl rfl | exact Or.inr rfl) (pe_ifExp (pt_cmpR op_lt (pv 1) (pe_callB call_len (by rfl) fr.b_len (by decide +kernel) (pa_cons (pv 0) pa_nil)) (nomark _)) (pe_callTy call_int1 (by rfl) fr.b_int (by decide +kernel) (pa_cons (pe_ix (ix_list : IxR _ (rIxL K)) (pv 0) (pv 1) (fun _ _ => rfl)) pa_nil)) (pe_op op_add (pe_op op_mulX pe_int (pv 1)) pe_int)))
  (pss_cons (ps_set (i := 3) sc__law_dice.nd rfl (by first | exact Or.inl rfl | exact Or.inr rfl) (pe_op op_modN (pe_callB (call_max2 rfl) (by rfl) fr.b_max (by decide +kernel) (pa_cons pe_int (pa_cons (pe_op op_sub (pe_callB call_abs (by rfl) fr.b_abs (by decide +kernel) (pa_cons (pv 2) pa_nil)) (pe_op op_pow pe_int pe_int)) pa_nil))) (pe_op op_mulX (pe_op op_pow pe_int pe_int) (pe_op op_pow pe_int pe_int))))
  (pss_one (ps_ret (pe_lst (pa_cons (pv 3) (pa_cons (pe_op op_add (pe_op op_add (pe_op op_add (pe_op op_mulX (pe_op op_modN (pe_callB call_abs (by rfl) fr.b_abs (by decide +kernel) (pa_cons (pv 2) pa_nil)) pe_int) pe_int) (pe_op op_mulX pe_int (pv 1))) (pe_op op_mulX pe_int (pe_callTy call_int1 (by rfl) fr.b_int (by decide +kernel) (pa_cons (pe_cmpR op_lt (pv 2) pe_int (nomark _)) pa_nil)))) pe_int) (pa_cons pe_int pa_nil)))))))), ?_⟩)
  obtain ⟨a, ns, s, rfl, hS, hl, h0, h100, q⟩ := h
  have bs : Bd 10 s := bd_sm (by omega) (by decide)
  have rest : ∀ c : Int, tSeq (tAsg (tOp (rI (fun _ j => j ≠ 0) fun i j => .int (i.fmod j)) (tCB (fun xs H Q => ∃ i j, xs = [.int i, .int j] ∧ Q (.int (if j > i then j else i)) H) (tCons (tC (.int 0)) (tCons (tOp (rI0 fun i j => .int (i - j)) (tCB (fun xs H Q => ∃ i, xs = [.int i] ∧ Q (.int (if i < 0 then -i else i)) H) (tCons (tVar 2) tNil)) (tOp (rI CPow fun i j => .int (i ^ j.toNat)) (tC (.int 10)) (tC (.int 16)))) tNil)))
      (tOp (rI CMulX fun i j => .int (i * j)) (tOp (rI CPow fun i j => .int (i ^ j.toNat)) (tC (.int 10)) (tC (.int 60))) (tOp (rI CPow fun i j => .int (i ^ j.toNat)) (tC (.int 10)) (tC (.int 60))))) (gName 3))
      (tRet (tLst (tCons (tVar 3) (tCons (tOp (rI0 fun i j => .int (i + j)) (tOp (rI0 fun i j => .int (i + j)) (tOp (rI0 fun i j => .int (i + j)) (tOp (rI CMulX fun i j => .int (i * j)) (tOp (rI (fun _ j => j ≠ 0) fun i j => .int (i.fmod j)) (tCB (fun xs H Q => ∃ i, xs = [.int i] ∧ Q (.int (if i < 0 then -i else i)) H) (tCons (tVar 2) tNil)) (tC (.int 1152921504606846883))) (tC (.int 47)))
        (tOp (rI CMulX fun i j => .int (i * j)) (tC (.int 809)) (tVar 1))) (tOp (rI CMulX fun i j => .int (i * j)) (tC (.int 31)) (tCB (fun xs H Q => (∃ i, xs = [.int i] ∧ Q (.int i) H) ∨ ∃ k, xs = [.bl k] ∧ Q (.int (if k then 1 else 0)) H) (tCons (tOp (rI0 fun i j => .bl (decide (i < j))) (tVar 2) (tC (.int 0))) tNil)))) (tC (.int 7))) (tCons (tC (.int 0)) tNil)))))
      { nx := fun _ H' => Q .non H', rt := Q } [some (.ref a), some (.int s), some (.int c), none] H := fun c => by
    have m1 : Bd 200 ((10 : Int) ^ 60) := bd_le (10 ^ 60) (by decide) (by decide)
    have nz : (10 : Int) ^ 60 * 10 ^ 60 ≠ 0 := by decide
    refine ⟨_, rfl, _, rfl, _, _, rfl, rfl, ⟨by decide, by decide, by decide⟩, _, _, rfl, rfl, _, _, rfl, _, _, rfl, rfl, ⟨by decide, by decide, by decide⟩, _, _, rfl, rfl, ⟨by decide, by decide, by decide⟩, _, _, rfl, rfl, m1.mulx m1 (by decide), _, _, rfl, rfl, nz, ?_⟩
    have km : Bd 61 (((if c < 0 then -c else c) : Int).fmod 1152921504606846883) := bd_mod (bd_le 1152921504606846883 (by decide) (by decide)) (by decide)
    have b47 : Bd 10 47 := bd_sm (by decide) (by decide)
    have b809 : Bd 10 809 := bd_sm (by decide) (by decide)
    have b31 : Bd 10 31 := bd_sm (by decide) (by decide)
    have bk : ∀ k : Bool, Bd 10 (if k then 1 else 0 : Int) := fun k => by cases k <;> exact bd_sm (by decide) (by decide)
    refine ⟨_, rfl, _, rfl, _, rfl, _, _, rfl, rfl, (by decide : (1152921504606846883 : Int) ≠ 0), _, _, rfl, rfl, km.mulx b47 (by decide), _, rfl, _, _, rfl, rfl, b809.mulx bs (by decide), _, _, rfl, rfl, _, rfl, _, _, rfl, rfl, .inr ⟨_, rfl, _, _, rfl, rfl, b31.mulx (bk _) (by decide), _, _, rfl, rfl, _, _, rfl, rfl, ?_⟩⟩
    refine ⟨by show 3 ≤ sizeLine; decide, fun p hp => q p _ (same_upd hp) hp ⟨_, _, _, upd_same, ?_, ?_, ?_, by decide, by decide⟩⟩
    · exact (fmod_range (by decide)).1
    · exact (bd_mod (m1.mul m1) (by decide)).mono (by decide)
    · refine Bd.add (n := 199) ?_ (bd_sm (by decide) (by decide)) rfl
      refine Bd.add (n := 198) ?_ ((b31.mul (bk _)).mono (by decide)) rfl
      exact Bd.add (n := 197) ((km.mul b47).mono (by decide)) ((b809.mul bs).mono (by decide)) rfl
  refine ⟨_, rfl, _, rfl, _, (ns.map V.int).length, rfl, Or.inl ⟨_, hS, rfl⟩, _, _, rfl, rfl, _, rfl, ite_dec (fun c => ?_) fun c => ?_⟩
  · rw [List.length_map] at c
    obtain ⟨j, rfl⟩ : ∃ j : Nat, s = (j : Int) := ⟨s.toNat, by omega⟩
    have hj : j < ns.length := by omega
    have g : (ns.map V.int)[j]? = some (.int ns[j]) := by rw [List.getElem?_map, List.getElem?_eq_getElem hj]; rfl
    exact ⟨_, rfl, _, rfl, a, _, _, _, rfl, rfl, hS, atI_nat g, .inl ⟨_, rfl, rest _⟩⟩
  · have b67 : Bd 10 67 := bd_sm (by decide) (by decide)
    exact ⟨_, rfl, _, _, rfl, rfl, b67.mulx bs (by decide), _, _, rfl, rfl, rest _⟩
theorem sc__law_roll : FnScope ["_law_dice_here", "_law_total", "_law_found", "_law_one", "_law_two"] ["_law_dice_here", "_law_total"] (defScope (topS 31)) := ⟨rfl, rfl, rfl, by decide +kernel, rfl, by decide +kernel, by decide +kernel⟩
theorem ok_roll (F : Fun K "_law_roll" "_law_roll" (topS 31) f fd) (fr : Free mg) : FnOk P w K mg base CX0 2 f fd ["_law_dice_here", "_law_total"] spRoll := by
  refine F.ok sc__law_roll (fun vs H Q E ⟨_, _, _, e, _⟩ => by rw [e]; rfl) (fun cdv A outer s H vs Q E hr h => ⟨_, (pss_cons (ps_if (pt_cmpR op_gt (pe_ix (ix_list : IxR _ (rIxL K)) (pv 0) pe_int (fun _ _ => rfl)) pe_int (nomark _)) (pss_cons (ps_set (i := 2) sc__law_roll.nd rfl (by first | exact Or.inl rfl | exact Or.inr rfl) (pe_op op_modN (pe_callTy call_int1 (by rfl) fr.b_int (by decide +kernel) (pa_cons (pe_ix (ix_list : IxR _ (rIxL K)) (pv 0) pe_int (fun _ _ => rfl)) pa_nil)) (pv 1)))
  (pss_cons (ps_asg (pe_op op_fdivZ (pe_ix (ix_list : IxR _ (rIxL K)) (pv 0) pe_int (fun _ _ => rfl)) (pv 1)) (pg_sub (pv 0) pe_int set_list))
  (pss_one (ps_ret (pv 2))))) pss_nil)
  (pss_cons (ps_asg (pe_op op_add (pe_ix (ix_list : IxR _ (rIxL K)) (pv 0) pe_int (fun _ _ => rfl)) pe_int) (pg_sub (pv 0) pe_int set_list))
  (pss_cons (ps_set (i := 3) sc__law_roll.nd rfl (by first | exact Or.inl rfl | exact Or.inr rfl) (pe_op op_modN (pe_callTy call_int1 (by rfl) fr.b_int (by decide +kernel) (pa_cons (pe_op op_add (pe_ix (ix_list : IxR _ (rIxL K)) (pv 0) pe_int (fun _ _ => rfl)) (pe_op op_mulX pe_int (pe_ix (ix_list : IxR _ (rIxL K)) (pv 0) pe_int (fun _ _ => rfl)))) pa_nil)) pe_int))
  (pss_cons (ps_set (i := 4) sc__law_roll.nd rfl (by first | exact Or.inl rfl | exact Or.inr rfl) (pe_op op_add (pe_op op_mulX (pe_op op_modN (pe_callTy call_int1 (by rfl) fr.b_int (by decide +kernel) (pa_cons (pe_op op_add (pe_op op_mulX (pv 3) (pv 3)) (pe_op op_mulX pe_int (pe_ix (ix_list : IxR _ (rIxL K)) (pv 0) pe_int (fun _ _ => rfl)))) pa_nil)) pe_int) pe_int) (pv 3)))
  (pss_one (ps_ret (pe_op op_modN (pe_callTy call_int1 (by rfl) fr.b_int (by decide +kernel) (pa_cons (pe_op op_fdivZ (pv 4) pe_int) pa_nil)) (pv 1)))))))), ?_⟩)
  obtain ⟨p, t, c, rfl, ⟨d0, d1, d2, hp, p0, b0, b1, p2, l2⟩, hc, t0, bt, q⟩ := h
  have g0 : ∀ x y z : V, atI [x, y, z] 0 = some x := fun x y z => atI_nat (j := 0) rfl
  have g1 : ∀ x y z : V, atI [x, y, z] 1 = some y := fun x y z => atI_nat (j := 1) rfl
  have g2 : ∀ x y z : V, atI [x, y, z] 2 = some z := fun x y z => atI_nat (j := 2) rfl
  refine ⟨_, rfl, p, _, _, _, rfl, rfl, .of hp, g0 _ _ _, _, _, rfl, rfl, _, rfl, ite_dec (fun c0 => ?_) fun c0 => ?_⟩
  · obtain ⟨r1, r2⟩ := fmod_range (i := d0) t0
    obtain ⟨r3, r4⟩ := fdiv_abs p0 t0
    refine ⟨_, rfl, p, _, _, _, rfl, rfl, .of hp, g0 _ _ _, .inl ⟨_, rfl, _, rfl, _, _, rfl, rfl, (by omega : t ≠ 0), _, rfl, p, _, _, _, rfl, rfl, .of hp, g0 _ _ _, _, rfl, _, _, rfl, rfl, bt.dvz (by omega) (Nat.le_refl _), _, rfl, p, _, _, 0, rfl, rfl, hp, rfl, _, rfl, ?_⟩⟩
    refine q _ _ r1 r2 (SameB.refl p H).upd ⟨_, _, _, upd_same, r3, b0.le r4, b1, p2, by omega⟩
  refine ⟨_, rfl, p, _, _, _, rfl, rfl, .of hp, g2 _ _ _, _, _, rfl, rfl, _, rfl, p, _, _, 2, rfl, rfl, hp, rfl, ?_⟩
  have hq : upd H p (.lst ([V.int d0, .int d1, .int d2].set 2 (.int (d2 + 1)))) p = some (.lst [.int d0, .int d1, .int (d2 + 1)]) := upd_same
  generalize hG : upd H p (.lst ([V.int d0, .int d1, .int d2].set 2 (.int (d2 + 1)))) = G at hq ⊢
  have sG : SameB p H G := by rw [← hG]; exact (SameB.refl p H).upd
  have bd2 : Bd 100 (d2 + 1) := bd_le (2 ^ 64) (by omega) (by decide)
  have bk : Bd 26 32452843 := bd_le 32452843 (by decide) (by decide)
  have b97 : Bd 10 97 := bd_sm (by decide) (by decide)
  refine ⟨_, rfl, p, _, _, _, rfl, rfl, .of hq, g1 _ _ _, _, rfl, p, _, _, _, rfl, rfl, .of hq, g2 _ _ _, _, _, rfl, rfl, bk.mulx bd2 (by decide), _, _, rfl, rfl, .inl ⟨_, rfl, _, _, rfl, rfl, (by decide : (2305843009213693951 : Int) ≠ 0), ?_⟩⟩
  have bo := bd_mod (i := d1 + 32452843 * (d2 + 1)) (j := 2305843009213693951) (n := 62) (bd_le 2305843009213693951 (by decide) (by decide)) (by decide)
  have bt2 := fun i : Int => bd_mod (i := i) (j := 2305843009213693921) (n := 62) (bd_le 2305843009213693921 (by decide) (by decide)) (by decide)
  have b7 : Bd 23 7368787 := bd_le 7368787 (by decide) (by decide)
  refine ⟨_, rfl, _, rfl, _, _, rfl, rfl, bo.mulx bo (by decide), _, rfl, p, _, _, _, rfl, rfl, .of hq, g2 _ _ _, _, _, rfl, rfl, b97.mulx bd2 (by decide), _, _, rfl, rfl, .inl ⟨_, rfl, _, _, rfl, rfl, (by decide : (2305843009213693921 : Int) ≠ 0), _, _, rfl, rfl, (bt2 _).mulx b7 (by decide), _, rfl, _, _, rfl, rfl, ?_⟩⟩
  have b6 : Bd 17 65536 := bd_le 65536 (by decide) (by decide)
  refine ⟨_, rfl, _, _, rfl, rfl, b6.dvz (by decide) (by decide), .inl ⟨_, rfl, _, rfl, _, _, rfl, rfl, (by omega : t ≠ 0), ?_⟩⟩
  exact q _ _ (fmod_range t0).1 (fmod_range t0).2 sG ⟨_, _, _, hq, p0, b0, b1, by omega, by omega⟩
theorem sc__law_pick : FnScope ["_law_dice_here", "_law_items"] ["_law_dice_here", "_law_items"] (defScope (topS 32)) := ⟨rfl, rfl, rfl, by decide +kernel, rfl, by decide +kernel, by decide +kernel⟩
theorem ok_pick (F : Fun K "_law_pick" "_law_pick" (topS 32) f fd) (fr : Free mg) (G__law_roll : GD P w K mg base "_law_roll" 2 spRoll) : FnOk P w K mg base CX0 3 f fd ["_law_dice_here", "_law_items"] spPick := by
  refine F.ok sc__law_pick (fun vs H Q E ⟨_, _, _, _, e, _⟩ => by rw [e]; rfl) (fun cdv A outer s H vs Q E hr h => ⟨_, (pss_one (ps_ret (pe_ix (ix_list : IxR _ (rIxL K)) (pv 1) (pe_c1 G__law_roll (hr.mono (by decide)) (pa_cons (pv 0) (pa_cons (pe_callB call_len (by rfl) fr.b_len (by decide +kernel) (pa_cons (pv 1) pa_nil)) pa_nil))) (fun _ _ => rfl)))), ?_⟩)
  obtain ⟨p, l, xs, c, rfl, hd, hc, hl, ne, h0, h1, q⟩ := h
  refine ⟨_, rfl, _, rfl, _, rfl, _, xs.length, rfl, .inl ⟨_, .of hl, rfl⟩, p, _, c, rfl, hd, hc, by omega, bd_le 1000 (by omega) (by decide), fun r H' r0 r1 s1 hd' => ?_⟩
  obtain ⟨j, rfl⟩ : ∃ j : Nat, r = (j : Int) := ⟨r.toNat, by omega⟩
  have hj : j < xs.length := by omega
  exact ⟨l, xs, _, _, rfl, rfl, .of (s1 _ _ ne hl), atI_nat (List.getElem?_eq_getElem hj), q _ _ (List.getElem_mem hj) s1 hd'⟩
end
end PF

set_option Elab.async false
set_option linter.all false
set_option maxRecDepth 100000
set_option maxHeartbeats 4000000
namespace PF
/-! ### least forms -/
theorem gcd3_pos {t p b : Int} (h : b ≠ 0) : 0 < gcd3 t p b := by
  unfold gcd3
  have : 0 < Nat.gcd (Nat.gcd t.natAbs p.natAbs) b.natAbs := Nat.gcd_pos_of_pos_right _ (by omega)
  omega
theorem share_dvd {t p b : Int} : share t p b ∣ t ∧ share t p b ∣ p ∧ share t p b ∣ b := by
  have h : gcd3 t p b ∣ t ∧ gcd3 t p b ∣ p ∧ gcd3 t p b ∣ b := by
    unfold gcd3
    refine ⟨?_, ?_, ?_⟩
    · exact Int.ofNat_dvd_left.mpr (Nat.dvd_trans (Nat.gcd_dvd_left _ _) (Nat.gcd_dvd_left _ _))
    · exact Int.ofNat_dvd_left.mpr (Nat.dvd_trans (Nat.gcd_dvd_left _ _) (Nat.gcd_dvd_right _ _))
    · exact Int.ofNat_dvd_left.mpr (Nat.gcd_dvd_right _ _)
  unfold share
  split
  · exact h
  · exact ⟨Int.neg_dvd.mpr h.1, Int.neg_dvd.mpr h.2.1, Int.neg_dvd.mpr h.2.2⟩
theorem fdiv_mul {a s : Int} (h : s ∣ a) : a.fdiv s * s = a := Int.fdiv_mul_cancel h
/-- what the least form stands for -/
theorem mkNm_val (t p r : Int) {b : Int} (h : b ≠ 0) : (mkNm t p r b).t * b = t * (mkNm t p r b).b ∧ (mkNm t p r b).p * b = p * (mkNm t p r b).b ∧ 0 < (mkNm t p r b).b := by
  obtain ⟨h1, h2, h3⟩ := share_dvd (t := t) (p := p) (b := b)
  have s0 := share_ne (t := t) (p := p) h
  have e1 := fdiv_mul h1
  have e2 := fdiv_mul h2
  have e3 := fdiv_mul h3
  have hs : 0 < b ↔ 0 < share t p b := by
    unfold share
    have := gcd3_pos (t := t) (p := p) h
    split <;> omega
  show t.fdiv (share t p b) * b = t * b.fdiv (share t p b) ∧ p.fdiv (share t p b) * b = p * b.fdiv (share t p b) ∧ 0 < b.fdiv (share t p b)
  generalize share t p b = s at *
  generalize t.fdiv s = t1 at *
  generalize p.fdiv s = p1 at *
  generalize b.fdiv s = b1 at *
  subst e1 e2 e3
  refine ⟨by grind, by grind, ?_⟩
  rcases Int.lt_trichotomy b1 0 with c | c | c
  · rcases Int.lt_trichotomy s 0 with d | d | d
    · have := Int.mul_pos_of_neg_of_neg c d; omega
    · omega
    · have := Int.mul_neg_of_neg_of_pos c d; omega
  · subst c; simp at h
  · exact c
/-- a number in its least form -/
structure Nrm (n : Nm) : Prop where
  b : 0 < n.b
  g : gcd3 n.t n.p n.b = 1
  r : n.p = 0 → n.r = 0
theorem gcd3_mul (t p b : Int) (s : Int) : gcd3 (t * s) (p * s) (b * s) = gcd3 t p b * s.natAbs := by
  unfold gcd3
  rw [Int.natAbs_mul, Int.natAbs_mul, Int.natAbs_mul, Nat.gcd_mul_right, Nat.gcd_mul_right]
  simp
theorem mkNm_nrm (t p r : Int) {b : Int} (h : b ≠ 0) : Nrm (mkNm t p r b) := by
  obtain ⟨h1, h2, h3⟩ := share_dvd (t := t) (p := p) (b := b)
  have s0 := share_ne (t := t) (p := p) h
  have e1 := fdiv_mul h1
  have e2 := fdiv_mul h2
  have e3 := fdiv_mul h3
  have ab : ((share t p b).natAbs : Int) = gcd3 t p b := by
    have := gcd3_pos (t := t) (p := p) h
    unfold share
    split <;> omega
  refine ⟨(mkNm_val t p r h).2.2, ?_, ?_⟩
  · show gcd3 (t.fdiv (share t p b)) (p.fdiv (share t p b)) (b.fdiv (share t p b)) = 1
    have k := gcd3_mul (t.fdiv (share t p b)) (p.fdiv (share t p b)) (b.fdiv (share t p b)) (share t p b)
    rw [e1, e2, e3, ab] at k
    have g0 := gcd3_pos (t := t) (p := p) h
    have z : (gcd3 (t.fdiv (share t p b)) (p.fdiv (share t p b)) (b.fdiv (share t p b)) - 1) * gcd3 t p b = 0 := by
      rw [Int.sub_mul, ← k]; omega
    rcases Int.mul_eq_zero.mp z with z | z <;> omega
  · intro hp
    show (if p = 0 then 0 else r) = 0
    rw [if_pos]
    have hp' : p.fdiv (share t p b) = 0 := hp
    rw [hp'] at e2
    omega
theorem nrm_ext {a c : Nm} (ha : Nrm a) (hc : Nrm c) (h1 : a.t * c.b = c.t * a.b) (h2 : a.p * c.b = c.p * a.b) (h3 : a.p ≠ 0 → a.r = c.r) : a = c := by
  have gb := ha.b
  have gc := hc.b
  have k1 : gcd3 (a.t * c.b) (a.p * c.b) (a.b * c.b) = c.b := by
    rw [gcd3_mul, ha.g]; omega
  have k2 : gcd3 (c.t * a.b) (c.p * a.b) (c.b * a.b) = a.b := by
    rw [gcd3_mul, hc.g]; omega
  have e : a.b = c.b := by
    rw [h1, h2, Int.mul_comm a.b c.b] at k1
    exact k2.symm.trans k1
  obtain ⟨at_, ap, ar, ab⟩ := a
  obtain ⟨ct, cp, cr, cb⟩ := c
  dsimp only at *
  subst e
  have e1 : at_ = ct := Int.eq_of_mul_eq_mul_right (by omega) h1
  have e2 : ap = cp := Int.eq_of_mul_eq_mul_right (by omega) h2
  subst e1 e2
  by_cases c : ap = 0
  · have := ha.r c; have := hc.r c; simp_all
  · rw [show ar = cr from h3 c]
theorem mkNm_congr {t p r b t' p' r' b' : Int} (h : b ≠ 0) (h' : b' ≠ 0) (e1 : t * b' = t' * b) (e2 : p * b' = p' * b) (e3 : p ≠ 0 → r = r') : mkNm t p r b = mkNm t' p' r' b' := by
  obtain ⟨v1, v2, v3⟩ := mkNm_val t p r h
  obtain ⟨w1, w2, w3⟩ := mkNm_val t' p' r' h'
  have n1 := mkNm_nrm t p r h
  have n2 := mkNm_nrm t' p' r' h'
  have hb : b * b' ≠ 0 := Int.mul_ne_zero h h'
  refine nrm_ext n1 n2 ?_ ?_ ?_
  · generalize mkNm t p r b = x at *
    generalize mkNm t' p' r' b' = y at *
    refine Int.eq_of_mul_eq_mul_right hb ?_
    have : x.t * y.b * (b * b') = (x.t * b) * (y.b * b') := by grind
    have : y.t * x.b * (b * b') = (y.t * b') * (x.b * b) := by grind
    grind
  · generalize mkNm t p r b = x at *
    generalize mkNm t' p' r' b' = y at *
    refine Int.eq_of_mul_eq_mul_right hb ?_
    grind
  · intro hp
    have p0 : p ≠ 0 := fun z => by
      rw [z] at v2
      have : (mkNm t p r b).p * b = 0 := by rw [z]; simpa using v2
      rcases Int.mul_eq_zero.mp this with q | q
      · exact hp q
      · exact h q
    have p1 : p' ≠ 0 := fun z => by
      rw [z] at e2
      rcases Int.mul_eq_zero.mp (show p * b' = 0 by simpa using e2) with q | q
      · exact p0 q
      · exact h' q
    show (if p = 0 then 0 else r) = (if p' = 0 then 0 else r')
    rw [if_neg p0, if_neg p1, e3 p0]
theorem mkNm_self {n : Nm} (h : Nrm n) : mkNm n.t n.p n.r n.b = n := by
  have b0 : n.b ≠ 0 := by have := h.b; omega
  refine nrm_ext (mkNm_nrm _ _ _ b0) h (mkNm_val n.t n.p n.r b0).1 (mkNm_val n.t n.p n.r b0).2.1 fun hp => ?_
  show (if n.p = 0 then 0 else n.r) = n.r
  split
  · next c => exact (h.r c).symm
  · rfl
/-! ### numbers of one root -/
/-- n stands for (t + p s) / b, s the root of R -/
structure Rt (R : Int) (n : Nm) (t p b : Int) : Prop where
  nrm : Nrm n
  b0 : b ≠ 0
  vt : n.t * b = t * n.b
  vp : n.p * b = p * n.b
  root : n.p ≠ 0 → n.r = R
theorem Rt.mk' {R t p b : Int} {r : Int} (h : b ≠ 0) (hr : p ≠ 0 → r = R) : Rt R (mkNm t p r b) t p b := by
  obtain ⟨v1, v2, v3⟩ := mkNm_val t p r h
  refine ⟨mkNm_nrm t p r h, h, v1, v2, fun hp => ?_⟩
  show (if p = 0 then 0 else r) = R
  split
  · next c =>
    subst c
    rcases Int.mul_eq_zero.mp (show (mkNm t 0 r b).p * b = 0 by simpa using v2) with q | q
    · exact absurd q hp
    · exact absurd q h
  · next c => exact hr c
theorem Rt.self {R : Int} {n : Nm} (h : Nrm n) (hr : n.p ≠ 0 → n.r = R) : Rt R n n.t n.p n.b := ⟨h, by have := h.b; omega, rfl, rfl, hr⟩
theorem Rt.uniq {R t p b t' p' b' : Int} {n m : Nm} (h : Rt R n t p b) (k : Rt R m t' p' b') (e1 : t * b' = t' * b) (e2 : p * b' = p' * b) : n = m := by
  have gb := h.nrm.b
  have gc := k.nrm.b
  have hb : b * b' ≠ 0 := Int.mul_ne_zero h.b0 k.b0
  have q1 := h.vt
  have q2 := h.vp
  have q3 := k.vt
  have q4 := k.vp
  have x2 : n.p * m.b = m.p * n.b := by
    refine Int.eq_of_mul_eq_mul_right hb ?_
    grind
  refine nrm_ext h.nrm k.nrm (Int.eq_of_mul_eq_mul_right hb (by grind)) x2 fun hp => ?_
  have mp : m.p ≠ 0 := fun z => by
    rw [z] at x2
    rcases Int.mul_eq_zero.mp (show n.p * m.b = 0 by simpa using x2) with q | q
    · exact hp q
    · omega
  rw [h.root hp, k.root mp]
section
variable {R ta pa ba tb pb bb : Int} {a b : Nm}
theorem cRoot_of (h : Rt R a ta pa ba) (k : Rt R b tb pb bb) (hp : a.p ≠ 0 ∨ b.p ≠ 0) (hR : R ≠ 0) : cRoot a b = R := by
  unfold cRoot
  split
  · next c =>
    rcases hp with hp | hp
    · exact absurd ((h.root hp).symm.trans c) hR
    · exact k.root hp
  · next c =>
    refine h.root fun z => c (h.nrm.r z)
theorem Rt.bnz (h : Rt R a ta pa ba) (k : Rt R b tb pb bb) : a.b * b.b ≠ 0 := Int.mul_ne_zero (by have := h.nrm.b; omega) (by have := k.nrm.b; omega)
/-- with a root there is none but it; without, all parts are 0 -/
theorem Rt.zero (h : Rt 0 a ta pa ba) (hz : ∀ n : Nm, n = a → n.p ≠ 0 → n.r ≠ 0) : a.p = 0 := Classical.byContradiction fun hp => hz a rfl hp (h.root hp)
theorem Rt.cm (h : Rt R a ta pa ba) (k : Rt R b tb pb bb) : Cm a b := by
  unfold Cm
  by_cases c : a.p = 0
  · exact .inl (h.nrm.r c)
  by_cases d : b.p = 0
  · exact .inr (.inl (k.nrm.r d))
  · exact .inr (.inr ((h.root c).trans (k.root d).symm))
theorem cRoot_p (h : Rt R a ta pa ba) (k : Rt R b tb pb bb) (hz : R = 0 → a.p = 0 ∧ b.p = 0) : cRoot a b * a.p = R * a.p ∧ cRoot a b * b.p = R * b.p := by
  by_cases hR : R = 0
  · obtain ⟨z1, z2⟩ := hz hR
    rw [z1, z2]; simp
  · refine ⟨?_, ?_⟩
    · by_cases c : a.p = 0
      · rw [c]; simp
      · rw [cRoot_of h k (.inl c) hR]
    · by_cases c : b.p = 0
      · rw [c]; simp
      · rw [cRoot_of h k (.inr c) hR]
variable (hz : R = 0 → a.p = 0 ∧ b.p = 0)
include hz
theorem Rt.add (h : Rt R a ta pa ba) (k : Rt R b tb pb bb) : Rt R (addN a b) (ta * bb + tb * ba) (pa * bb + pb * ba) (ba * bb) := by
  have hb := Int.mul_ne_zero h.b0 k.b0
  have e : Rt R (addN a b) (a.t * b.b + b.t * a.b) (a.p * b.b + b.p * a.b) (a.b * b.b) := Rt.mk' (h.bnz k) fun hp => by
    by_cases hR : R = 0
    · obtain ⟨z1, z2⟩ := hz hR; exact absurd (by rw [z1, z2]; simp) hp
    refine cRoot_of h k (Classical.byContradiction fun c => ?_) hR
    have c1 : a.p = 0 := Classical.byContradiction fun z => c (.inl z)
    have c2 : b.p = 0 := Classical.byContradiction fun z => c (.inr z)
    exact hp (by rw [c1, c2]; simp)
  obtain ⟨n, _, v1, v2, r⟩ := e
  have q1 := h.vt
  have q2 := h.vp
  have q3 := k.vt
  have q4 := k.vp
  have nz := h.bnz k
  refine ⟨n, hb, Int.eq_of_mul_eq_mul_right nz ?_, Int.eq_of_mul_eq_mul_right nz ?_, r⟩ <;> grind
theorem Rt.sub (h : Rt R a ta pa ba) (k : Rt R b tb pb bb) : Rt R (subN a b) (ta * bb - tb * ba) (pa * bb - pb * ba) (ba * bb) := by
  have hb := Int.mul_ne_zero h.b0 k.b0
  have e : Rt R (subN a b) (a.t * b.b - b.t * a.b) (a.p * b.b - b.p * a.b) (a.b * b.b) := Rt.mk' (h.bnz k) fun hp => by
    by_cases hR : R = 0
    · obtain ⟨z1, z2⟩ := hz hR; exact absurd (by rw [z1, z2]; simp) hp
    refine cRoot_of h k (Classical.byContradiction fun c => ?_) hR
    have c1 : a.p = 0 := Classical.byContradiction fun z => c (.inl z)
    have c2 : b.p = 0 := Classical.byContradiction fun z => c (.inr z)
    exact hp (by rw [c1, c2]; simp)
  obtain ⟨n, _, v1, v2, r⟩ := e
  have q1 := h.vt
  have q2 := h.vp
  have q3 := k.vt
  have q4 := k.vp
  have nz := h.bnz k
  refine ⟨n, hb, Int.eq_of_mul_eq_mul_right nz ?_, Int.eq_of_mul_eq_mul_right nz ?_, r⟩ <;> grind
theorem Rt.mul (h : Rt R a ta pa ba) (k : Rt R b tb pb bb) : Rt R (mulN a b) (ta * tb + pa * pb * R) (ta * pb + pa * tb) (ba * bb) := by
  have hb := Int.mul_ne_zero h.b0 k.b0
  have e : Rt R (mulN a b) (a.t * b.t + a.p * b.p * cRoot a b) (a.t * b.p + a.p * b.t) (a.b * b.b) := Rt.mk' (h.bnz k) fun hp => by
    by_cases hR : R = 0
    · obtain ⟨z1, z2⟩ := hz hR; exact absurd (by rw [z1, z2]; simp) hp
    refine cRoot_of h k (Classical.byContradiction fun c => ?_) hR
    have c1 : a.p = 0 := Classical.byContradiction fun z => c (.inl z)
    have c2 : b.p = 0 := Classical.byContradiction fun z => c (.inr z)
    exact hp (by rw [c1, c2]; simp)
  obtain ⟨n, _, v1, v2, r⟩ := e
  have q1 := h.vt
  have q2 := h.vp
  have q3 := k.vt
  have q4 := k.vp
  have nz := h.bnz k
  have cp := (cRoot_p h k hz).1
  have v1' : (mulN a b).t * (a.b * b.b) = (a.t * b.t + a.p * b.p * R) * (mulN a b).b := by rw [v1]; grind
  refine ⟨n, hb, Int.eq_of_mul_eq_mul_right nz ?_, Int.eq_of_mul_eq_mul_right nz ?_, r⟩ <;> grind
theorem sizeN_eq (h : Rt R a ta pa ba) (k : Rt R b tb pb bb) : sizeN a b = b.t * b.t - b.p * b.p * R := by
  have cp := (cRoot_p h k hz).2
  unfold sizeN
  grind
theorem Rt.over (h : Rt R a ta pa ba) (k : Rt R b tb pb bb) (s0 : sizeN a b ≠ 0) : Rt R (overN a b) ((a.t * b.t - a.p * b.p * R) * b.b) ((a.p * b.t - a.t * b.p) * b.b) (sizeN a b * a.b) := by
  have cp := (cRoot_p h k hz).1
  have e : Rt R (overN a b) ((a.t * b.t - a.p * b.p * cRoot a b) * b.b) ((a.p * b.t - a.t * b.p) * b.b) (sizeN a b * a.b) := Rt.mk' (Int.mul_ne_zero s0 (by have := h.nrm.b; omega)) fun hp => by
    by_cases hR : R = 0
    · obtain ⟨z1, z2⟩ := hz hR; exact absurd (by rw [z1, z2]; simp) hp
    refine cRoot_of h k (Classical.byContradiction fun c => ?_) hR
    have c1 : a.p = 0 := Classical.byContradiction fun z => c (.inl z)
    have c2 : b.p = 0 := Classical.byContradiction fun z => c (.inr z)
    exact hp (by rw [c1, c2]; simp)
  have e2 : (a.t * b.t - a.p * b.p * R) * b.b = (a.t * b.t - a.p * b.p * cRoot a b) * b.b := by grind
  rw [e2]
  exact e
end
end PF

set_option Elab.async false
set_option linter.all false
set_option maxRecDepth 100000
set_option maxHeartbeats 4000000
namespace PF
/-- a number of the law: in its least form, its root R or none -/
structure Okn (R : Int) (n : Nm) : Prop where
  nrm : Nrm n
  root : n.p ≠ 0 → n.r = R
  zero : R = 0 → n.p = 0
/-- a root, or none -/
def okR (R : Int) : Prop := R = 0 ∨ isRootB R = true
theorem root_parts {R : Int} (h : isRootB R = true) : 2 ≤ R ∧ R ≤ 999 ∧ ∀ i : Nat, i < isq R.toNat - 1 → R.fmod ((2 + (i : Int)) * (2 + (i : Int))) ≠ 0 := by
  unfold isRootB at h
  obtain ⟨h12, h3⟩ := Bool.and_eq_true_iff.mp h
  obtain ⟨h1, h2⟩ := Bool.and_eq_true_iff.mp h12
  refine ⟨of_decide_eq_true h1, of_decide_eq_true h2, fun i hi z => ?_⟩
  have k := List.all_eq_true.mp h3 (!decide (R.fmod ((2 + (i : Int)) * (2 + (i : Int))) = 0)) (List.mem_map.mpr ⟨i, List.mem_range.mpr hi, rfl⟩)
  rw [decide_eq_true z] at k
  exact absurd k (by decide)
theorem sq_dvd {x y r : Nat} (y0 : y ≠ 0) (h : x * x = y * y * r) : ∃ z, z * z = r := by
  have g0 : 0 < Nat.gcd x y := Nat.gcd_pos_of_pos_right _ (by omega)
  obtain ⟨a, ha⟩ := Nat.gcd_dvd_left x y
  obtain ⟨b, hb⟩ := Nat.gcd_dvd_right x y
  have co : Nat.Coprime a b := by
    have k : Nat.gcd (Nat.gcd x y * a) (Nat.gcd x y * b) = Nat.gcd x y := by rw [← ha, ← hb]
    rw [Nat.gcd_mul_left] at k
    exact Nat.eq_of_mul_eq_mul_left g0 (by rw [k, Nat.mul_one])
  generalize Nat.gcd x y = g at *
  subst ha hb
  have e : a * a = b * b * r := Nat.eq_of_mul_eq_mul_left (Nat.mul_pos g0 g0) (by grind)
  have c2 : Nat.Coprime (b * b) (a * a) := (Nat.Coprime.mul_left (co.mul_right co) (co.mul_right co)).symm
  have one : b * b = 1 := Nat.Coprime.eq_one_of_dvd c2 ⟨r, e⟩
  exact ⟨a, by rw [e, one, Nat.one_mul]⟩
theorem irr {R x y : Int} (hR : okR R) (r0 : R ≠ 0) (y0 : y ≠ 0) : x * x ≠ y * y * R := fun h => by
  have key : x.natAbs * x.natAbs = y.natAbs * y.natAbs * R.natAbs := by
    rw [← Int.natAbs_mul, ← Int.natAbs_mul, ← Int.natAbs_mul, h]
  obtain ⟨z, hz⟩ := sq_dvd (by omega) key
  obtain ⟨h2, _, h3⟩ := root_parts (hR.resolve_left r0)
  have z2 : 2 ≤ z := by
    refine Nat.le_of_not_lt fun k => ?_
    have := Nat.mul_le_mul (show z ≤ 1 by omega) (show z ≤ 1 by omega)
    omega
  have zr : z ≤ isq R.toNat := le_isq (by omega)
  refine h3 (z - 2) (by omega) ?_
  have e : (2 : Int) + ((z - 2 : Nat) : Int) = (z : Int) := by omega
  have eR : R = (z : Int) * (z : Int) := by
    have : ((z * z : Nat) : Int) = R := by omega
    rw [← this, Int.natCast_mul]
  rw [e, ← eR]
  exact Int.fmod_self
theorem okR_nn {R : Int} (h : okR R) : 0 ≤ R ∧ R ≤ 999 := by
  rcases h with rfl | h
  · decide
  · obtain ⟨h1, h2, _⟩ := root_parts h
    omega
theorem okR_bd {R : Int} (h : okR R) : Bd 10 R := bd_sm (by have := okR_nn h; omega) (by decide)
theorem okR_root {R : Int} (h : okR R) (r0 : R ≠ 0) : isRootB R = true := h.resolve_left r0
section
variable {R : Int} {n a b c : Nm}
theorem Okn.r0 (h : Okn R n) (hR : okR R) : 0 ≤ n.r := by
  by_cases c : n.p = 0
  · rw [h.nrm.r c]; exact Int.le_refl 0
  · rw [h.root c]; exact (okR_nn hR).1
theorem Okn.rb (h : Okn R n) (hR : okR R) : Bd 10 n.r := by
  by_cases c : n.p = 0
  · rw [h.nrm.r c]; exact bd_sm (by decide) (by decide)
  · rw [h.root c]; exact okR_bd hR
theorem Okn.rt (h : Okn R n) : Rt R n n.t n.p n.b := Rt.self h.nrm h.root
theorem Okn.hz (h : Okn R a) (k : Okn R b) : R = 0 → a.p = 0 ∧ b.p = 0 := fun z => ⟨h.zero z, k.zero z⟩
theorem Okn.cm (h : Okn R a) (k : Okn R b) : Cm a b := h.rt.cm k.rt
theorem Okn.irr (h : Okn R n) (hR : okR R) {x y : Int} (e : y ≠ 0 → n.p ≠ 0) : y ≠ 0 → x * x ≠ y * y * n.r := fun y0 => by
  have p0 := e y0
  rw [h.root p0]
  exact PF.irr hR (fun z => p0 (h.zero z)) y0
theorem Okn.gd (h : Okn R n) (hR : okR R) {k : Nat} (bt : Bd k n.t) (bp : Bd k n.p) (bb : Bd k n.b) : Gd k n := ⟨by have := h.nrm.b; omega, bt, bp, bb, h.rb hR, h.r0 hR⟩
theorem Rt.okn {t p d : Int} (h : Rt R n t p d) (z : R = 0 → n.p = 0) : Okn R n := ⟨h.nrm, h.root, z⟩
theorem Rt.pz {t p d : Int} (h : Rt R n t p d) (z : p = 0) : n.p = 0 := by
  have := h.vp
  rw [z, Int.zero_mul] at this
  exact (Int.mul_eq_zero.mp this).resolve_right h.b0
theorem Okn.add (h : Okn R a) (k : Okn R b) : Rt R (addN a b) (a.t * b.b + b.t * a.b) (a.p * b.b + b.p * a.b) (a.b * b.b) := Rt.add (h.hz k) h.rt k.rt
theorem Okn.sub (h : Okn R a) (k : Okn R b) : Rt R (subN a b) (a.t * b.b - b.t * a.b) (a.p * b.b - b.p * a.b) (a.b * b.b) := Rt.sub (h.hz k) h.rt k.rt
theorem Okn.mul (h : Okn R a) (k : Okn R b) : Rt R (mulN a b) (a.t * b.t + a.p * b.p * R) (a.t * b.p + a.p * b.t) (a.b * b.b) := Rt.mul (h.hz k) h.rt k.rt
theorem Okn.addk (h : Okn R a) (k : Okn R b) : Okn R (addN a b) := (h.add k).okn fun z => (h.add k).pz (by rw [h.zero z, k.zero z]; simp)
theorem Okn.subk (h : Okn R a) (k : Okn R b) : Okn R (subN a b) := (h.sub k).okn fun z => (h.sub k).pz (by rw [h.zero z, k.zero z]; simp)
theorem Okn.mulk (h : Okn R a) (k : Okn R b) : Okn R (mulN a b) := (h.mul k).okn fun z => (h.mul k).pz (by rw [h.zero z, k.zero z]; simp)
theorem Okn.size (h : Okn R a) (k : Okn R b) (hR : okR R) (nz : ¬ (b.t = 0 ∧ b.p = 0)) : sizeN a b ≠ 0 := by
  rw [sizeN_eq (h.hz k) h.rt k.rt]
  by_cases c : b.p = 0
  · have t0 : b.t ≠ 0 := fun z => nz ⟨z, c⟩
    rw [c]
    have := Int.mul_ne_zero t0 t0
    omega
  · have := PF.irr (x := b.t) hR (fun z => c (k.zero z)) c
    omega
theorem Okn.over (h : Okn R a) (k : Okn R b) (s0 : sizeN a b ≠ 0) : Rt R (overN a b) ((a.t * b.t - a.p * b.p * R) * b.b) ((a.p * b.t - a.t * b.p) * b.b) (sizeN a b * a.b) := Rt.over (h.hz k) h.rt k.rt s0
theorem Okn.overk (h : Okn R a) (k : Okn R b) (s0 : sizeN a b ≠ 0) : Okn R (overN a b) := (h.over k s0).okn fun z => (h.over k s0).pz (by rw [h.zero z, k.zero z]; simp)
theorem Okn.mk' {t p r d : Int} (h : d ≠ 0) (hr : p ≠ 0 → r = R) (z : R = 0 → p = 0) : Okn R (mkNm t p r d) := (Rt.mk' h hr).okn fun y => (Rt.mk' (R := R) (t := t) h hr).pz (z y)
/-! the law's own sums and products -/
def lAddN (a b : Nm) (r : Int) : Nm := mkNm (a.t * b.b + b.t * a.b) (a.p * b.b + b.p * a.b) r (a.b * b.b)
def lMulN (a b : Nm) (r : Int) : Nm := mkNm (a.t * b.t + a.p * b.p * r) (a.t * b.p + a.p * b.t) r (a.b * b.b)
def lessN (b : Nm) : Nm := ⟨-b.t, -b.p, b.r, b.b⟩
theorem Okn.ladd (h : Okn R a) (k : Okn R b) : addN a b = lAddN a b R := (h.add k).uniq (Rt.mk' (h.rt.bnz k.rt) fun _ => rfl) rfl rfl
theorem Okn.lmul (h : Okn R a) (k : Okn R b) : mulN a b = lMulN a b R := (h.mul k).uniq (Rt.mk' (h.rt.bnz k.rt) fun _ => rfl) rfl rfl
theorem Okn.less (h : Okn R a) (k : Okn R b) : subN a b = lAddN a (lessN b) R := by
  have e : Rt R (lAddN a (lessN b) R) (a.t * b.b + -b.t * a.b) (a.p * b.b + -b.p * a.b) (a.b * b.b) := Rt.mk' (t := a.t * b.b + -b.t * a.b) (p := a.p * b.b + -b.p * a.b) (b := a.b * b.b) (h.rt.bnz k.rt) fun _ => rfl
  exact (h.sub k).uniq e (by grind) (by grind)
theorem Okn.back (h : Okn R a) (k : Okn R b) : addN (subN a b) b = a := by
  have b0 := k.rt.b0
  refine (Rt.add ((h.subk k).hz k) (h.sub k) k.rt).uniq h.rt ?_ ?_ <;> grind
theorem Okn.oback (h : Okn R a) (k : Okn R b) (s0 : sizeN a b ≠ 0) : lMulN (overN a b) b R = a := by
  have b0 := k.rt.b0
  rw [← (h.overk k s0).lmul k]
  have e := sizeN_eq (h.hz k) h.rt k.rt
  refine (Rt.mul ((h.overk k s0).hz k) (h.over k s0) k.rt).uniq h.rt ?_ ?_
  · rw [e]; grind
  · rw [e]; grind
theorem Okn.self (h : Okn R n) : mkNm n.t n.p n.r n.b = n := mkNm_self h.nrm
theorem Okn.comm (h : Okn R a) (k : Okn R b) : mulN a b = mulN b a := (h.mul k).uniq (k.mul h) (by grind) (by grind)
theorem Okn.dist (h : Okn R a) (k : Okn R b) (m : Okn R c) : mulN (addN a b) c = addN (mulN a c) (mulN b c) := by
  refine (Rt.mul ((h.addk k).hz m) (h.add k) m.rt).uniq (Rt.add ((h.mulk m).hz (k.mulk m)) (h.mul m) (k.mul m)) ?_ ?_ <;> grind
theorem nrm_flip {n m : Nm} (h : Nrm n) (t : m.t.natAbs = n.t.natAbs) (p : m.p.natAbs = n.p.natAbs) (r : m.r = n.r) (b : m.b = n.b) : Nrm m := ⟨by rw [b]; exact h.b, by unfold gcd3; rw [t, p, b]; exact h.g, fun z => by rw [r]; exact h.r (by omega)⟩
theorem Okn.neg (h : Okn R n) : negN n = lessN n := mkNm_self (n := lessN n) (nrm_flip h.nrm (Int.natAbs_neg _) (Int.natAbs_neg _) rfl rfl)
theorem Okn.mir (h : Okn R n) : mirN n = ⟨n.t, -n.p, n.r, n.b⟩ := mkNm_self (n := ⟨n.t, -n.p, n.r, n.b⟩) (nrm_flip h.nrm rfl (Int.natAbs_neg _) rfl rfl)
theorem Okn.mirk (h : Okn R n) : Okn R (mirN n) := by
  rw [h.mir]
  exact ⟨nrm_flip h.nrm rfl (Int.natAbs_neg _) rfl rfl, fun z => h.root (fun y => z (by show -n.p = 0; omega)), fun z => by show -n.p = 0; have := h.zero z; omega⟩
theorem Okn.mirt (h : Okn R n) {t p d : Int} (k : Rt R n t p d) : Rt R (mirN n) t (-p) d := by
  have e := h.mir
  have m := h.mirk
  refine ⟨m.nrm, k.b0, ?_, ?_, m.root⟩
  · rw [e]; exact k.vt
  · rw [e]; show -n.p * d = -p * n.b; rw [Int.neg_mul, Int.neg_mul, k.vp]
theorem Okn.mirm (h : Okn R a) (k : Okn R b) : mirN (mulN a b) = mulN (mirN a) (mirN b) := by
  refine ((h.mulk k).mirt (h.mul k)).uniq (Rt.mul (h.mirk.hz k.mirk) (h.mirt h.rt) (k.mirt k.rt)) ?_ ?_ <;> grind
/-- the norm, by the root R -/
theorem Okn.normt (h : Okn R n) {t p d : Int} (k : Rt R n t p d) : Rt 0 (normN n) (t * t - p * p * R) 0 (d * d) := by
  have b0 := h.rt.b0
  have d0 := k.b0
  have e : Rt 0 (normN n) (n.t * n.t - n.p * n.p * n.r) 0 (n.b * n.b) := Rt.mk' (Int.mul_ne_zero b0 b0) fun z => absurd rfl z
  have r : n.p * n.r = n.p * R := by
    by_cases c : n.p = 0
    · rw [c]; simp
    · rw [h.root c]
  obtain ⟨q1, q2, q3, q4, q5⟩ := e
  have v1 := k.vt
  have v2 := k.vp
  refine ⟨q1, Int.mul_ne_zero d0 d0, ?_, ?_, q5⟩
  · refine Int.eq_of_mul_eq_mul_right (Int.mul_ne_zero b0 b0) ?_
    grind
  · have z : (normN n).p = 0 := by
      rw [Int.zero_mul] at q4
      exact (Int.mul_eq_zero.mp q4).resolve_right (Int.mul_ne_zero b0 b0)
    rw [z]; simp
theorem Okn.normk (h : Okn R n) : Okn 0 (normN n) := (h.normt h.rt).okn fun _ => (h.normt h.rt).pz rfl
theorem Okn.normm (h : Okn R a) (k : Okn R b) : normN (mulN a b) = mulN (normN a) (normN b) := by
  refine ((h.mulk k).normt (h.mul k)).uniq (Rt.mul (h.normk.hz k.normk) (h.normt h.rt) (k.normt k.rt)) ?_ ?_ <;> grind
/-! floors -/
theorem sgn_le {v : Int} : v ≤ 0 → sgn v ≤ 0 := fun h => by unfold sgn b2; rw [decide_eq_false (by omega)]; by_cases k : v < 0 <;> simp [k]
theorem sgn_ge {v : Int} : 0 ≤ v → 0 ≤ sgn v := fun h => by unfold sgn b2; rw [decide_eq_false (show ¬ v < 0 by omega)]; by_cases k : 0 < v <;> simp [k]
theorem sgn_p {v : Int} (h : 0 < v) : sgn v = 1 := by unfold sgn b2; rw [decide_eq_true h, decide_eq_false (by omega)]; rfl
theorem sgn_n {v : Int} (h : v < 0) : sgn v = -1 := by unfold sgn b2; rw [decide_eq_true h, decide_eq_false (by omega)]; rfl
theorem fdiv_bds (x : Int) {b : Int} (h : 0 < b) : x.fdiv b * b ≤ x ∧ x < x.fdiv b * b + b := by
  rw [Int.fdiv_eq_ediv_of_nonneg x (by omega)]
  have h1 := Int.emod_nonneg x (show b ≠ 0 by omega)
  have h2 := Int.emod_lt_of_pos x h
  have h3 := Int.mul_ediv_add_emod x b
  rw [Int.mul_comm] at h3
  omega
theorem Okn.floor (h : Okn R n) (hR : okR R) : 0 ≤ sgnSum (n.t - floorN n.t n.p n.r n.b * n.b) n.p n.r ∧ sgnSum (n.t - floorN n.t n.p n.r n.b * n.b - n.b) n.p n.r < 0 := by
  have hb := h.nrm.b
  unfold floorN
  by_cases c : n.p = 0
  · have d := fdiv_bds n.t hb
    rw [if_pos c]
    unfold sgnSum
    rw [if_pos c, if_pos c]
    exact ⟨sgn_ge (by omega), by rw [sgn_n (by omega)]; decide⟩
  · rw [if_neg c]
    have hr := h.root c
    have r0 : R ≠ 0 := fun z => c (h.zero z)
    have rp : 0 < R := by have := (okR_nn hR).1; omega
    rw [hr]
    have pp : 0 < n.p * n.p := by
      rcases Int.lt_or_gt_of_ne c with k | k
      · exact Int.mul_pos_of_neg_of_neg k k
      · exact Int.mul_pos k k
    have pr : 0 < n.p * n.p * R := Int.mul_pos pp rp
    obtain ⟨i1, i2⟩ := isq_ok (n.p * n.p * R).toNat
    have ne := PF.irr (x := (isq (n.p * n.p * R).toNat : Int)) hR r0 c
    generalize isq (n.p * n.p * R).toNat = q at *
    have j1 : (q : Int) * q < n.p * n.p * R := by
      have : ((q * q : Nat) : Int) ≤ n.p * n.p * R := by omega
      rw [Int.natCast_mul] at this
      omega
    have j2 : n.p * n.p * R < ((q : Int) + 1) * (q + 1) := by
      have : n.p * n.p * R < (((q + 1) * (q + 1) : Nat) : Int) := by omega
      rw [Int.natCast_mul] at this
      simpa using this
    generalize hA : n.p * n.p * R = A at *
    have hq : (0 : Int) ≤ q := Int.natCast_nonneg q
    have sqle : ∀ u v : Int, 0 ≤ u → u ≤ v → u * u ≤ v * v := fun u v h1 h2 => Int.mul_le_mul h2 h2 h1 (by omega)
    unfold sgnSum
    rw [if_neg c, if_neg c, hA]
    rcases Int.lt_or_gt_of_ne c with k | k
    · rw [if_neg (show ¬ 0 < n.p by omega), sgn_n k]
      have d := fdiv_bds (n.t + (-(q : Int) - 1)) hb
      generalize (n.t + (-(q : Int) - 1)).fdiv n.b * n.b = F at *
      constructor
      · have u1 : (q : Int) + 1 ≤ n.t - F := by omega
        have u2 := sqle _ _ (by omega) u1
        rw [sgn_p (v := n.t - F) (by omega), if_neg (by decide), sgn_p (by omega)]; decide
      · by_cases z : n.t - F - n.b ≤ 0
        · have := sgn_le z
          rw [if_pos (by omega)]; decide
        · have u2 := sqle (n.t - F - n.b) q (by omega) (by omega)
          rw [sgn_p (v := n.t - F - n.b) (by omega), if_neg (by decide), sgn_n (by omega)]; decide
    · rw [if_pos k, sgn_p k]
      have d := fdiv_bds (n.t + q) hb
      generalize (n.t + (q : Int)).fdiv n.b * n.b = F at *
      constructor
      · by_cases z : 0 ≤ n.t - F
        · have := sgn_ge z
          rw [if_pos (by omega)]; decide
        · have u2 := sqle (-(n.t - F)) q (by omega) (by omega)
          rw [Int.neg_mul_neg] at u2
          rw [sgn_n (v := n.t - F) (by omega), if_neg (by decide), sgn_n (by omega)]; decide
      · have u2 := sqle (q + 1) (-(n.t - F - n.b)) (by omega) (by omega)
        rw [Int.neg_mul_neg] at u2
        rw [sgn_n (v := n.t - F - n.b) (by omega), if_neg (by decide), sgn_p (by omega)]; decide
end
/-! bits of a least form -/
theorem fdiv_abs_le (x : Int) {s : Int} (h : s ∣ x) : (x.fdiv s).natAbs ≤ x.natAbs := by
  have e := fdiv_mul h
  by_cases c : x = 0
  · rw [c, Int.zero_fdiv]; exact Nat.le_refl _
  · have e2 : (x.fdiv s).natAbs * s.natAbs = x.natAbs := by rw [← Int.natAbs_mul, e]
    have : s.natAbs ≠ 0 := fun z => by rw [z] at e2; omega
    have h3 := Nat.mul_le_mul_left (x.fdiv s).natAbs (show 1 ≤ s.natAbs by omega)
    omega
theorem mk_bd {t p r b : Int} {k : Nat} (bt : Bd k t) (bp : Bd k p) (bb : Bd k b) : Bd k (mkNm t p r b).t ∧ Bd k (mkNm t p r b).p ∧ Bd k (mkNm t p r b).b := by
  obtain ⟨h1, h2, h3⟩ := share_dvd (t := t) (p := p) (b := b)
  exact ⟨bt.le (fdiv_abs_le t h1), bp.le (fdiv_abs_le p h2), bb.le (fdiv_abs_le b h3)⟩
/-- three integers of fewer than k bits -/
def B3 (k : Nat) (n : Nm) : Prop := Bd k n.t ∧ Bd k n.p ∧ Bd k n.b
theorem B3.mono {k m : Nat} {n : Nm} (h : B3 k n) (l : k ≤ m) : B3 m n := ⟨h.1.mono l, h.2.1.mono l, h.2.2.mono l⟩
section
variable {a b : Nm} {k : Nat}
theorem cR_bd {a b : Nm} (h : Bd 10 a.r) (g : Bd 10 b.r) : Bd 10 (cRoot a b) := by unfold cRoot; split <;> assumption
theorem B3.add (h : B3 k a) (g : B3 k b) : B3 (2 * k + 12) (addN a b) := mk_bd
  ((Bd.add (n := k + k) (m := k + k + 1) (h.1.mul g.2.2) (g.1.mul h.2.2) rfl).mono (by omega)) ((Bd.add (n := k + k) (m := k + k + 1) (h.2.1.mul g.2.2) (g.2.1.mul h.2.2) rfl).mono (by omega)) ((h.2.2.mul g.2.2).mono (by omega))
theorem B3.sub (h : B3 k a) (g : B3 k b) : B3 (2 * k + 12) (subN a b) := mk_bd
  ((Bd.sub (n := k + k) (m := k + k + 1) (h.1.mul g.2.2) (g.1.mul h.2.2) rfl).mono (by omega)) ((Bd.sub (n := k + k) (m := k + k + 1) (h.2.1.mul g.2.2) (g.2.1.mul h.2.2) rfl).mono (by omega)) ((h.2.2.mul g.2.2).mono (by omega))
theorem B3.mul (h : B3 k a) (g : B3 k b) (r1 : Bd 10 a.r) (r2 : Bd 10 b.r) : B3 (2 * k + 12) (mulN a b) := mk_bd
  ((Bd.add (n := k + k + 10) (m := k + k + 11) ((h.1.mul g.1).mono (by omega)) ((h.2.1.mul g.2.1).mul (cR_bd r1 r2)) rfl).mono (by omega)) ((Bd.add (n := k + k) (m := k + k + 1) (h.1.mul g.2.1) (h.2.1.mul g.1) rfl).mono (by omega)) ((h.2.2.mul g.2.2).mono (by omega))
theorem B3.over (h : B3 k a) (g : B3 k b) (r1 : Bd 10 a.r) (r2 : Bd 10 b.r) : B3 (3 * k + 12) (overN a b) := mk_bd
  (((Bd.sub (n := k + k + 10) (m := k + k + 11) ((h.1.mul g.1).mono (by omega)) ((h.2.1.mul g.2.1).mul (cR_bd r1 r2)) rfl).mul g.2.2).mono (by omega))
  (((Bd.sub (n := k + k) (m := k + k + 1) (h.2.1.mul g.1) (h.1.mul g.2.1) rfl).mul g.2.2).mono (by omega))
  (((Bd.sub (n := k + k + 10) (m := k + k + 11) ((g.1.mul g.1).mono (by omega)) ((g.2.1.mul g.2.1).mul (cR_bd r1 r2)) rfl).mul h.2.2).mono (by omega))
theorem B3.mir (h : B3 k a) : B3 k (mirN a) := mk_bd h.1 h.2.1.neg h.2.2
theorem B3.norm (h : B3 k a) (r : Bd 10 a.r) : B3 (2 * k + 12) (normN a) := mk_bd ((Bd.sub (n := k + k + 10) (m := k + k + 11) ((h.1.mul h.1).mono (by omega)) ((h.2.1.mul h.2.1).mul r) rfl).mono (by omega)) (bd_sm (by decide) (by omega)) ((h.2.2.mul h.2.2).mono (by omega))
end
end PF

set_option Elab.async false
set_option linter.all false
set_option maxRecDepth 100000
set_option maxHeartbeats 4000000
set_option exponentiation.threshold 20000
namespace PF
open PySem PySem.Spec PyProof.Rows L2 SlX
/-- the class x at C, called with n values and these keywords -/
structure GMK (P : Program) (w : World) (K : PySem.W.Frag) (mg : Str → Option Value) (base : Heap) (x : Str) (C : Addr) (k n : Nat) (ks : List Str) (sp : Sp) : Prop where
  ex : ∃ f fd ps g, mg x = some (.ref C) ∧ Mk K C f ∧ KBn K fd ps (n + 1) ks g (fun vs zs => vs ++ zs) ∧ FnOk P w K mg base CX0 k f fd ps sp
theorem pe_mk {X : Cx} {k n : Nat} {ks : List Str} {sp : Sp} {x : Str} {C : Addr} {p pos : Pos} {e : Expr} {es : List Expr} {kws : List Keyword} {t tk : TA} (G : GMK X.prog X.w X.K X.mg X.base x C k n ks sp) (hr : Room (k + 1) X.A) (ha : PA X (e :: es) t) (hkw : PK X kws tk) (gl : Gl X x := by rfl)
    (hall : (backToKw pos (keywordEach kws X.env)).all (·.1.isSome) = true := by rfl) (hks : (backToKw pos (keywordEach kws X.env)).filterMap (·.1) = ks := by rfl)
    (hdb : (x == ("__debug__" : Str)) = false := by decide) (he : starEach (e :: es) X.env = (false, eval e X.env) :: starEach es X.env := by rfl)
    (hpl : ((backTo pos (starEach (e :: es) X.env)).any (·.1) || (backToKw pos (keywordEach kws X.env)).any (·.1.isNone)) = false := by rfl) : PE X (.Call (.Name x p) (e :: es) kws pos) (tMakeN C n ks.length sp (fun vs zs => vs ++ zs) E0 t tk) := by
  obtain ⟨f, fd, ps, g, h1, h2, h3, h4⟩ := G.ex
  exact pe_makeN h2 h4 hr gl h1 h3 pass0 ha hkw hall hks hdb he hpl
/-- a tuple of four integers -/
def T4 (H : Hp) (v : V) (n : Nm) : Prop := ∃ a, v = .ref a ∧ H a = some (.tup [.int n.t, .int n.p, .int n.r, .int n.b])
theorem T4.same {H H' : Hp} {v : V} {n : Nm} (h : T4 H v n) (s : Same H H') : T4 H' v n := by
  obtain ⟨a, rfl, h⟩ := h
  exact ⟨a, rfl, s _ _ h⟩
def spLSign : Sp := fun vs H Q _ => ∃ (a : Addr) (x y r : Int), vs = [.ref a, .int r] ∧ H a = some (.tup [.int x, .int y]) ∧ Bd 4000 x ∧ Bd 4000 y ∧ Bd 10 r ∧ (y ≠ 0 → x * x ≠ y * y * r) ∧ Q (.int (sgnSum x y r)) H
def spLCommon : Sp := fun vs H Q _ => ∃ a b : Int, vs = [.int a, .int b] ∧ 0 ≤ a ∧ 0 ≤ b ∧ Bd 4400 a ∧ Bd 4400 b ∧ Q (.int ((Nat.gcd a.toNat b.toNat : Nat) : Int)) H
def spLLeast : Sp := fun vs H Q _ => ∃ t p r b : Int, vs = [.int t, .int p, .int r, .int b] ∧ b ≠ 0 ∧ Bd 4400 t ∧ Bd 4400 p ∧ Bd 4400 b ∧ ∀ v H', Same H H' → T4 H' v (mkNm t p r b) → Q v H'
def spParts : Sp := fun vs H Q _ => ∃ (q : Addr) (r : Int) (c : Nat), vs = [.ref q, .int r] ∧ Dice q H c ∧ c + 10 < 2 ^ 64 ∧ ∀ v H' t p b, SameB q H H' → Dice q H' (c + 10) → T4 H' v ⟨t, p, r, b⟩ → b ≠ 0 → Bd 101 t → Bd 101 p → Bd 101 b → (r = 0 → p = 0) → Q v H'
def spMade (CN : Addr) : Sp := fun vs H Q _ => ∃ x n, vs = [x] ∧ T4 H x n ∧ n.b ≠ 0 ∧ okRoot n.r n.p ∧ Bd 9000 n.b ∧ ∀ v H', Same H H' → At4 CN H' v (mkNm n.t n.p n.r n.b) → Q v H'
def spLForm (CN : Addr) : Sp := fun vs H Q _ => ∃ x n, vs = [x] ∧ At4 CN H x n ∧ ∀ v H', Same H H' → T4 H' v n → Q v H'
def spLAdd (g : Nm → Nm → Int → Nm) : Sp := fun vs H Q _ => ∃ x y r a b, vs = [x, y, .int r] ∧ T4 H x a ∧ T4 H y b ∧ Bd 1000 a.t ∧ Bd 1000 a.p ∧ Bd 1000 a.b ∧ Bd 1000 b.t ∧ Bd 1000 b.p ∧ Bd 1000 b.b ∧ a.b ≠ 0 ∧ b.b ≠ 0 ∧ Bd 10 r ∧ ∀ v H', Same H H' → T4 H' v (g a b r) → Q v H'
theorem vbl (a b : Bool) : decide (V.bl a = V.bl b) = (a == b) := by cases a <;> cases b <;> rfl
/-- Euclid's steps: after i of them -/
def Eu (M i x y : Nat) : Prop := ∃ k, (i = 2 * k ∧ y * 2 ^ k < M) ∨ (i = 2 * k + 1 ∧ y < x ∧ x * 2 ^ k < M)
theorem Eu.step {M i x y : Nat} (h : Eu M i x y) (y0 : y ≠ 0) : Eu M (i + 1) y (x % y) := by
  have l := Nat.mod_lt x (Nat.pos_of_ne_zero y0)
  obtain ⟨k, ⟨rfl, h⟩ | ⟨rfl, h1, h2⟩⟩ := h
  · exact ⟨k, .inr ⟨rfl, l, h⟩⟩
  · refine ⟨k + 1, .inl ⟨rfl, Nat.lt_of_le_of_lt ?_ h2⟩⟩
    have e : 2 * (x % y) ≤ x := by
      have h3 := Nat.div_add_mod x y
      have h4 : 1 ≤ x / y := (Nat.one_le_div_iff (Nat.pos_of_ne_zero y0)).mpr (Nat.le_of_lt h1)
      have h5 := Nat.mul_le_mul_left y h4
      omega
    rw [Nat.pow_succ, Nat.mul_comm (2 ^ k) 2, ← Nat.mul_assoc, Nat.mul_comm _ 2]
    exact Nat.mul_le_mul_right _ e
theorem Eu.fin {M a x y : Nat} (hM : M ≤ 2 ^ a) (h : Eu M (2 * a) x y) : y = 0 := by
  obtain ⟨k, ⟨e, h⟩ | ⟨e, _⟩⟩ := h
  · have : k = a := by omega
    subst this
    refine Classical.byContradiction fun c => ?_
    have := Nat.mul_le_mul_right (2 ^ k) (Nat.one_le_iff_ne_zero.mpr c)
    omega
  · omega
theorem sgn_pos {v : Int} (h : 0 < v) : sgn v = 1 := by unfold sgn b2; rw [decide_eq_true h, decide_eq_false (by omega)]; rfl
theorem sgn_neg {v : Int} (h : v < 0) : sgn v = -1 := by unfold sgn b2; rw [decide_eq_true h, decide_eq_false (by omega)]; rfl
theorem sgn_zero : sgn 0 = 0 := rfl
theorem vint (i j : Int) : decide (V.int i = V.int j) = decide (i = j) := by
  by_cases c : i = j
  · rw [c, decide_eq_true rfl, decide_eq_true rfl]
  · rw [decide_eq_false c, decide_eq_false fun z => c (V.int.inj z)]
section
variable {P : Program} {w : World} {K : PySem.W.Frag} {mg : Str → Option Value} {base : Heap} {f CN CF : Addr} {fd : FuncData}
theorem sc__law_sign : FnScope ["_law_pair", "_law_root", "_law_x", "_law_y", "_law_both", "_law_greater"] ["_law_pair", "_law_root"] (defScope (topS 34)) := ⟨rfl, rfl, rfl, by decide +kernel, rfl, by decide +kernel, by decide +kernel⟩
theorem ok_lsign (F : Fun K "_law_sign" "_law_sign" (topS 34) f fd) (fr : Free mg) : FnOk P w K mg base CX0 2 f fd ["_law_pair", "_law_root"] spLSign := by
  refine F.ok sc__law_sign (fun vs H Q E ⟨_, _, _, _, e, _⟩ => by rw [e]; rfl) (fun cdv A outer s H vs Q E hr h => ⟨_, (pss_cons (ps_asg (pv 0) (pg_tup (by rfl) (pgs_cons (pg_name (i := 2) sc__law_sign.nd rfl (by first | exact Or.inl rfl | exact Or.inr rfl)) (pgs_cons (pg_name (i := 3) sc__law_sign.nd rfl (by first | exact Or.inl rfl | exact Or.inr rfl)) pgs_nil))))
  (pss_cons (ps_if (PW.pt (pw_or (pt_cmpR op_eq (pv 3) pe_int (nomark _)) (pw_or (pt_cmpR op_eq (pv 2) pe_int (nomark _)) (pw_or1 (pt_cmpR op_eq (pe_cmpR op_gt (pv 2) pe_int (nomark _)) (pe_cmpR op_gt (pv 3) pe_int (nomark _)) (nomark _)))))) (pss_cons (ps_set (i := 4) sc__law_sign.nd rfl (by first | exact Or.inl rfl | exact Or.inr rfl) (pe_ifExp (pt_cmpR op_ne (pv 2) pe_int (nomark _)) (pv 2) (pv 3)))
  (pss_one (ps_ret (pe_op op_sub (pe_callTy call_int1 (by rfl) fr.b_int (by decide +kernel) (pa_cons (pe_cmpR op_gt (pv 4) pe_int (nomark _)) pa_nil)) (pe_callTy call_int1 (by rfl) fr.b_int (by decide +kernel) (pa_cons (pe_cmpR op_lt (pv 4) pe_int (nomark _)) pa_nil)))))) pss_nil)
  (pss_cons (ps_set (i := 5) sc__law_sign.nd rfl (by first | exact Or.inl rfl | exact Or.inr rfl) (pe_ifExp (pt_cmpR op_gt (pe_op op_mulX (pv 2) (pv 2)) (pe_op op_mulX (pe_op op_mulX (pv 3) (pv 3)) (pv 1)) (nomark _)) (pv 2) (pv 3)))
  (pss_one (ps_ret (pe_ifExp (pt_cmpR op_gt (pv 5) pe_int (nomark _)) pe_int (pe_un un_neg pe_int))))))), ?_⟩)
  obtain ⟨a, x, y, r, rfl, ha, bx, by_, br, ir, q⟩ := h
  have fin : ∀ (k : Int) (σ : L2.St), σ[4]? = some (some (.int k)) → sgn k = sgnSum x y r → tRet (tOp (rI0 fun i j => V.int (i - j))
      (tCB (fun xs H Q => (∃ i, xs = [V.int i] ∧ Q (V.int i) H) ∨ ∃ k, xs = [V.bl k] ∧ Q (V.int (if k = true then 1 else 0)) H) (tCons (tOp (rI0 fun i j => V.bl (decide (j < i))) (tVar 4) (tC (V.int 0))) tNil))
      (tCB (fun xs H Q => (∃ i, xs = [V.int i] ∧ Q (V.int i) H) ∨ ∃ k, xs = [V.bl k] ∧ Q (V.int (if k = true then 1 else 0)) H) (tCons (tOp (rI0 fun i j => V.bl (decide (i < j))) (tVar 4) (tC (V.int 0))) tNil)))
      { nx := fun x H' => Q V.non H', rt := Q } σ H := fun k σ hk e => by
    refine ⟨_, hk, _, _, rfl, rfl, .inr ⟨_, rfl, _, hk, _, _, rfl, rfl, .inr ⟨_, rfl, _, _, rfl, rfl, ?_⟩⟩⟩
    rw [← e] at q
    exact q
  refine ⟨_, rfl, a, _, rfl, .of ha, rfl, _, _, rfl, _, _, rfl, rfl, ?_⟩
  refine ⟨_, rfl, rfl, _, rfl, ite_dec (fun c => ?_) fun c => ?_⟩
  · obtain rfl : y = 0 := V.int.inj c
    refine ⟨_, rfl, rfl, _, rfl, ite_ndec (fun c2 => ⟨_, rfl, fin x _ rfl ?_⟩) fun c2 => ⟨_, rfl, fin 0 _ rfl ?_⟩⟩
    · unfold sgnSum; rw [if_pos rfl]
    · obtain rfl : x = 0 := V.int.inj c2
      rfl
  replace c : y ≠ 0 := fun z => c (congrArg V.int z)
  refine ⟨_, rfl, rfl, _, rfl, ite_dec (fun c2 => ?_) fun c2 => ?_⟩
  · obtain rfl : x = 0 := V.int.inj c2
    refine ⟨_, rfl, rfl, _, rfl, ⟨_, rfl, fin y _ rfl ?_⟩⟩
    unfold sgnSum; rw [if_neg c, if_pos (by rw [sgn_zero, Int.zero_mul]; exact Int.le_refl 0)]
  replace c2 : x ≠ 0 := fun z => c2 (congrArg V.int z)
  have yes : decide (V.int x = V.int 0) = false := by rw [vint, decide_eq_false c2]
  have ss : sgnSum x y r = if 0 ≤ sgn x * sgn y then sgn y else sgn x * sgn (x * x - y * y * r) := by unfold sgnSum; rw [if_neg c]
  have same : sgn x = sgnSum x y r → tSeq (tAsg (tIf (tTest (tOp rNe (tVar 2) (tC (V.int 0)))) (tVar 2) (tVar 3)) (gName 4)) (tRet (tOp (rI0 fun i j => V.int (i - j))
      (tCB (fun xs H Q => (∃ i, xs = [V.int i] ∧ Q (V.int i) H) ∨ ∃ k, xs = [V.bl k] ∧ Q (V.int (if k = true then 1 else 0)) H) (tCons (tOp (rI0 fun i j => V.bl (decide (j < i))) (tVar 4) (tC (V.int 0))) tNil))
      (tCB (fun xs H Q => (∃ i, xs = [V.int i] ∧ Q (V.int i) H) ∨ ∃ k, xs = [V.bl k] ∧ Q (V.int (if k = true then 1 else 0)) H) (tCons (tOp (rI0 fun i j => V.bl (decide (i < j))) (tVar 4) (tC (V.int 0))) tNil))))
      { nx := fun x H' => Q V.non H', rt := Q } [some (.ref a), some (.int r), some (.int x), some (.int y), none, none] H := fun e => by
    refine ⟨_, rfl, rfl, _, rfl, ?_⟩
    rw [yes]
    exact ⟨_, rfl, fin x _ rfl e⟩
  have diff : ∀ g : Int, g ≠ 0 → sgnSum x y r = (if 0 < g then 1 else -1) → tRet (tIf (tTest (tOp (rI0 fun i j => V.bl (decide (j < i))) (tVar 5) (tC (V.int 0)))) (tC (V.int 1)) (tUn (rU fun i => V.int (-i)) (tC (V.int 1))))
      { nx := fun x H' => Q V.non H', rt := Q } [some (.ref a), some (.int r), some (.int x), some (.int y), none, some (.int g)] H := fun g g0 e => by
    refine ⟨_, rfl, _, _, rfl, rfl, _, rfl, ite_dec (fun k => ?_) fun k => ?_⟩
    · rw [e, if_pos k] at q; exact q
    · rw [e, if_neg k] at q; exact ⟨_, rfl, q⟩
  refine ⟨_, rfl, _, _, rfl, rfl, _, rfl, _, _, rfl, rfl, rfl, _, rfl, ?_⟩
  dsimp only
  rw [vbl]
  rcases Int.lt_or_gt_of_ne c2 with hx | hx <;> rcases Int.lt_or_gt_of_ne c with hy | hy
  · rw [decide_eq_false (show ¬ 0 < x by omega), decide_eq_false (show ¬ 0 < y by omega)]
    refine same ?_
    rw [ss, sgn_neg hx, sgn_neg hy]; rfl
  rotate_right
  · rw [decide_eq_true hx, decide_eq_true hy]
    refine same ?_
    rw [ss, sgn_pos hx, sgn_pos hy]; rfl
  · rw [decide_eq_false (show ¬ 0 < x by omega), decide_eq_true hy]
    refine ⟨_, rfl, _, rfl, _, _, rfl, rfl, bx.mulx bx (by decide), _, rfl, _, rfl, _, _, rfl, rfl, by_.mulx by_ (by decide), _, rfl, _, _, rfl, rfl, (by_.mul by_).mulx br (by decide), _, _, rfl, rfl, _, rfl, ite_dec (fun k => ⟨_, rfl, diff x c2 ?_⟩) fun k => ⟨_, rfl, diff y c ?_⟩⟩
    · rw [ss, sgn_neg hx, sgn_pos hy, if_neg (by decide), sgn_pos (by omega), if_neg (by omega)]; rfl
    · have := ir c
      rw [ss, sgn_neg hx, sgn_pos hy, if_neg (by decide), sgn_neg (by omega), if_pos hy]; rfl
  · rw [decide_eq_true hx, decide_eq_false (show ¬ 0 < y by omega)]
    refine ⟨_, rfl, _, rfl, _, _, rfl, rfl, bx.mulx bx (by decide), _, rfl, _, rfl, _, _, rfl, rfl, by_.mulx by_ (by decide), _, rfl, _, _, rfl, rfl, (by_.mul by_).mulx br (by decide), _, _, rfl, rfl, _, rfl, ite_dec (fun k => ⟨_, rfl, diff x c2 ?_⟩) fun k => ⟨_, rfl, diff y c ?_⟩⟩
    · rw [ss, sgn_pos hx, sgn_neg hy, if_neg (by decide), sgn_pos (by omega), if_pos hx]; rfl
    · have := ir c
      rw [ss, sgn_pos hx, sgn_neg hy, if_neg (by decide), sgn_neg (by omega), if_neg (by omega)]; rfl
theorem sc__law_parts_drawn : FnScope ["_law_dice_here", "_law_root", "_law_near_here", "_law_top", "_law_part"] ["_law_dice_here", "_law_root"] (defScope (topS 35)) := ⟨rfl, rfl, rfl, by decide +kernel, rfl, by decide +kernel, by decide +kernel⟩
theorem ok_lparts (F : Fun K "_law_parts_drawn" "_law_parts_drawn" (topS 35) f fd) (fr : Free mg) (G__law_roll : GD P w K mg base "_law_roll" 2 spRoll) (G__law_pick : GD P w K mg base "_law_pick" 3 spPick) : FnOk P w K mg base CX0 4 f fd ["_law_dice_here", "_law_root"] spParts := by
  refine F.ok sc__law_parts_drawn (fun vs H Q E ⟨_, _, _, e, _⟩ => by rw [e]; rfl) (fun cdv A outer s H vs Q E hr h => ⟨_, (pss_cons (ps_set (i := 2) sc__law_parts_drawn.nd rfl (by first | exact Or.inl rfl | exact Or.inr rfl) (pe_c1 G__law_pick (hr.mono (by decide)) (pa_cons (pv 0) (pa_cons (pe_lst (pa_cons pe_int (pa_cons pe_int (pa_cons pe_int (pa_cons (pe_op op_pow pe_int pe_int) (pa_cons (pe_op op_pow pe_int pe_int) pa_nil)))))) pa_nil))))
  (pss_cons (ps_set (i := 3) sc__law_parts_drawn.nd rfl (by first | exact Or.inl rfl | exact Or.inr rfl) (pe_op op_sub (pe_c1 G__law_roll (hr.mono (by decide)) (pa_cons (pv 0) (pa_cons (pe_op op_add (pe_op op_mulX pe_int (pv 2)) pe_int) pa_nil))) (pv 2)))
  (pss_cons (ps_set (i := 4) sc__law_parts_drawn.nd rfl (by first | exact Or.inl rfl | exact Or.inr rfl) (pe_ifExp (pt_cmpR op_eq (pv 1) pe_int (nomark _)) pe_int (pe_op op_sub (pe_c1 G__law_roll (hr.mono (by decide)) (pa_cons (pv 0) (pa_cons (pe_op op_add (pe_op op_mulX pe_int (pv 2)) pe_int) pa_nil))) (pv 2))))
  (pss_one (ps_ret (pe_tup (pa_cons (pv 3) (pa_cons (pv 4) (pa_cons (pv 1) (pa_cons (pe_c1 G__law_pick (hr.mono (by decide)) (pa_cons (pv 0) (pa_cons (pe_lst (pa_cons pe_int (pa_cons pe_int (pa_cons pe_int (pa_cons pe_int (pa_cons (pe_un un_neg pe_int) (pa_cons pe_int (pa_cons (pe_un un_neg pe_int) (pa_cons pe_int (pa_cons (pe_op op_add pe_int (pe_c1 G__law_roll (hr.mono (by decide)) (pa_cons (pv 0) (pa_cons (pv 2) pa_nil)))) pa_nil)))))))))) pa_nil))) pa_nil)))))))))), ?_⟩)
  obtain ⟨p, r, c, rfl, hd, hc, q⟩ := h
  have sq := fun (xs : List V) (q2 : Addr) (H1 : Hp) (h : H1 q2 = none) (hd : Dice p H1 c) => hd
  refine ⟨_, rfl, _, _, rfl, rfl, ⟨by decide, by decide, by decide⟩, _, _, rfl, rfl, ⟨by decide, by decide, by decide⟩, by show 5 ≤ sizeLine; decide, fun l1 hl1 => ?_⟩
  have p1 : l1 ≠ p := fun z => by
    obtain ⟨_, _, _, h, _⟩ := hd
    rw [z, h] at hl1; cases hl1
  refine ⟨p, l1, _, c, rfl, hd.same (same_upd hl1), by omega, upd_same, p1, by decide, by decide, fun near H1 hin s1 d1 => ?_⟩
  obtain ⟨n, rfl, n0, n1⟩ : ∃ n : Int, near = .int n ∧ 0 < n ∧ n ≤ 10 ^ 30 := by
    simp only [List.mem_cons, List.mem_nil_iff, or_false] at hin
    rcases hin with rfl | rfl | rfl | rfl | rfl
    · exact ⟨_, rfl, by decide, by decide⟩
    · exact ⟨_, rfl, by decide, by decide⟩
    · exact ⟨_, rfl, by decide, by decide⟩
    · exact ⟨_, rfl, by decide, by decide⟩
    · exact ⟨_, rfl, by decide, by decide⟩
  have bn : Bd 100 n := bd_le (10 ^ 30) (by omega) (by decide)
  have bs2 : Bd 10 2 := bd_sm (by decide) (by decide)
  have bw : Bd 9000 (2 * n + 1) := bd_le (2 * 10 ^ 30 + 1) (by omega) (by decide)
  have s01 : SameB p H H1 := (Same.b (same_upd hl1)).trans s1
  refine ⟨_, rfl, _, rfl, _, _, rfl, rfl, bs2.mulx bn (by decide), _, _, rfl, rfl, p, _, c + 1, rfl, d1, by omega, by omega, bw, fun r1 H2 r10 r11 s2 d2 => ⟨_, rfl, _, _, rfl, rfl, ?_⟩⟩
  have bt : Bd 101 (r1 - n) := bd_le (10 ^ 30) (by omega) (by decide)
  have s02 := s01.trans s2
  have tail : ∀ (pt : Int) (c3 : Nat) (H3 : Hp), SameB p H H3 → Dice p H3 c3 → c3 + 2 ≤ c + 10 → Bd 101 pt → (r = 0 → pt = 0) → ∀ o : Option V, tRet (tTup (tCons (tVar 3) (tCons (tVar 4) (tCons (tVar 1) (tCons (tCall spPick [] E0 (tCons (tVar 0) (tCons (tLst
      (tCons (tC (V.int 1)) (tCons (tC (V.int 1)) (tCons (tC (V.int 2)) (tCons (tC (V.int 3)) (tCons (tUn (rU fun i => V.int (-i)) (tC (V.int 4))) (tCons (tC (V.int 6)) (tCons (tUn (rU fun i => V.int (-i)) (tC (V.int 1))) (tCons (tC (V.int 12))
      (tCons (tOp (rI0 fun i j => V.int (i + j)) (tC (V.int 1)) (tCall spRoll [] E0 (tCons (tVar 0) (tCons (tVar 2) tNil)))) tNil)))))))))) tNil))) tNil)))))
      { nx := fun x H' => Q V.non H', rt := Q } [some (.ref p), some (.int r), some (.int n), some (.int (r1 - n)), some (.int pt)] H3 := fun pt c3 H3 s3 d3 l3 bp rp o => by
    refine ⟨_, rfl, _, rfl, _, rfl, _, rfl, _, rfl, _, rfl, _, rfl, _, rfl, p, _, c3, rfl, d3, by omega, n0, bn.mono (by decide), fun r4 H4 r40 r41 s4 d4 => ⟨_, _, rfl, rfl, by show 9 ≤ sizeLine; decide, fun l2 hl2 => ?_⟩⟩
    have p2 : l2 ≠ p := fun z => by
      obtain ⟨_, _, _, h, _⟩ := d4
      rw [z, h] at hl2; cases hl2
    refine ⟨p, l2, _, c3 + 1, rfl, d4.same (same_upd hl2), by omega, upd_same, p2, Nat.zero_lt_succ _, (by decide : 9 ≤ 1000), fun bv H5 hin s5 d5 => ?_⟩
    obtain ⟨b, rfl, b0, bb⟩ : ∃ b : Int, bv = .int b ∧ b ≠ 0 ∧ Bd 101 b := by
      simp only [List.mem_cons, List.mem_nil_iff, or_false] at hin
      rcases hin with rfl | rfl | rfl | rfl | rfl | rfl | rfl | rfl | rfl
      · exact ⟨_, rfl, by decide, bd_sm (by decide) (by decide)⟩
      · exact ⟨_, rfl, by decide, bd_sm (by decide) (by decide)⟩
      · exact ⟨_, rfl, by decide, bd_sm (by decide) (by decide)⟩
      · exact ⟨_, rfl, by decide, bd_sm (by decide) (by decide)⟩
      · exact ⟨_, rfl, by decide, bd_sm (by decide) (by decide)⟩
      · exact ⟨_, rfl, by decide, bd_sm (by decide) (by decide)⟩
      · exact ⟨_, rfl, by decide, bd_sm (by decide) (by decide)⟩
      · exact ⟨_, rfl, by decide, bd_sm (by decide) (by decide)⟩
      · exact ⟨_, rfl, by omega, bd_le (10 ^ 30) (by omega) (by decide)⟩
    have sAll := ((s3.trans s4).trans (Same.b (same_upd hl2))).trans s5
    exact ⟨by show 4 ≤ sizeLine; decide, fun q2 hq => q _ _ _ _ _ (sAll.trans (Same.b (same_upd hq))) ((d5.same (same_upd hq)).mono (by omega)) ⟨q2, rfl, upd_same⟩ b0 bt bp bb rp⟩
  refine ⟨_, rfl, rfl, _, rfl, ite_dec (fun c4 => ?_) fun c4 => ?_⟩
  · exact tail 0 (c + 2) H2 s02 d2 (by omega) (bd_sm (by decide) (by decide)) (fun _ => rfl) none
  · refine ⟨_, rfl, _, rfl, _, _, rfl, rfl, bs2.mulx bn (by decide), _, _, rfl, rfl, p, _, c + 2, rfl, d2, by omega, by omega, bw, fun r3 H3 r30 r31 s3 d3 => ⟨_, rfl, _, _, rfl, rfl, ?_⟩⟩
    exact tail _ (c + 3) H3 (s02.trans s3) d3 (by omega) (bd_le (10 ^ 30) (by omega) (by decide)) (fun z => absurd (congrArg V.int z) c4) none
theorem sc__law_made : FnScope ["_law_parts"] ["_law_parts"] (defScope (topS 36)) := ⟨rfl, rfl, rfl, by decide +kernel, rfl, by decide +kernel, by decide +kernel⟩
theorem ok_lmade (F : Fun K "_law_made" "_law_made" (topS 36) f fd) (fr : Free mg) (G_NumberK : GMK P w K mg base "Number" CN 6 2 ["root", "bottom"] (spNumI CN CF)) : FnOk P w K mg base CX0 8 f fd ["_law_parts"] (spMade CN) := by
  refine F.ok sc__law_made (fun vs H Q E ⟨_, _, e, _⟩ => by rw [e]; rfl) (fun cdv A outer s H vs Q E hr h => ⟨_, (pss_one (ps_ret (pe_mk G_NumberK (hr.mono (by decide)) (pa_cons (pe_ix (ix_tup : IxR _ (rIxT K)) (pv 0) pe_int (fun _ _ => rfl)) (pa_cons (pe_ix (ix_tup : IxR _ (rIxT K)) (pv 0) pe_int (fun _ _ => rfl)) pa_nil)) (pk_cons (pe_ix (ix_tup : IxR _ (rIxT K)) (pv 0) pe_int (fun _ _ => rfl)) (pk_cons (pe_ix (ix_tup : IxR _ (rIxT K)) (pv 0) pe_int (fun _ _ => rfl)) pk_nil))))), ?_⟩)
  obtain ⟨x, n, rfl, ⟨a, rfl, ha⟩, b0, ro, bb, q⟩ := h
  have g0 : ∀ x y z u : V, atI [x, y, z, u] 0 = some x := fun x y z u => atI_nat (j := 0) rfl
  have g1 : ∀ x y z u : V, atI [x, y, z, u] 1 = some y := fun x y z u => atI_nat (j := 1) rfl
  have g2 : ∀ x y z u : V, atI [x, y, z, u] 2 = some z := fun x y z u => atI_nat (j := 2) rfl
  have g3 : ∀ x y z u : V, atI [x, y, z, u] 3 = some u := fun x y z u => atI_nat (j := 3) rfl
  exact ⟨_, rfl, a, _, _, _, rfl, rfl, .of ha, g0 _ _ _ _, _, rfl, a, _, _, _, rfl, rfl, .of ha, g1 _ _ _ _, _, rfl, a, _, _, _, rfl, rfl, .of ha, g2 _ _ _ _, _, rfl, a, _, _, _, rfl, rfl, .of ha, g3 _ _ _ _, rfl, rfl,
    num_made (.inr ⟨_, _, _, _, rfl, b0, ro, bb, rfl⟩) q⟩
end
end PF

set_option Elab.async false
set_option linter.all false
set_option maxRecDepth 100000
set_option maxHeartbeats 4000000
set_option exponentiation.threshold 20000
namespace PF
open PySem PySem.Spec PyProof.Rows L2 SlX
theorem T4.dp {K : PySem.W.Frag} {H : Hp} {v : V} {n : Nm} (h : T4 H v n) : Dp K H v (.tuple [.int n.t, .int n.p, .int n.r, .int n.b]) := by
  obtain ⟨a, rfl, h⟩ := h
  exact .tup (.of h) (.cons (.int _) (.cons (.int _) (.cons (.int _) (.cons (.int _) .nil))))
/-- the data of a number's form -/
def d4 (n : Nm) : PyData := .tuple [.int n.t, .int n.p, .int n.r, .int n.b]
theorem d4_eq (a b : Nm) : PyData.eqv (d4 a) (d4 b) = decide (a = b) := by
  have e : PyData.eqv (d4 a) (d4 b) = ((a.t == b.t) && ((a.p == b.p) && ((a.r == b.r) && ((a.b == b.b) && true)))) := rfl
  rw [e, Bool.eq_iff_iff]
  obtain ⟨t, p, r, q⟩ := a
  obtain ⟨t', p', r', q'⟩ := b
  simp
theorem bd_log {k : Nat} {i : Int} (h : Bd k i) (k0 : 0 < k) : i.natAbs.log2 < k := by
  by_cases c : i.natAbs = 0
  · rw [c]; exact k0
  · exact (Nat.log2_lt c).mpr h
theorem int_short {i : Int} (h : Bd 1000 i) : (PyData.shown (.int i)).length ≤ 1001 := by
  have e := int_text_length_le (k := 1000) (by decide) (bd_log h (by decide))
  show (Str.ofString (toString i)).length ≤ 1001
  rw [PySem.ofString_length]; exact e
theorem d4_short {n : Nm} (h : B3 1000 n) (r : Bd 1000 n.r) : (d4 n).shown.length ≤ sizeLine := by
  have e := PyData.shown_le_bulk 1001 (by decide) (d4 n) (by
    show (decide ((PyData.shown (.int n.t)).length ≤ 1001) && (decide ((PyData.shown (.int n.p)).length ≤ 1001) && (decide ((PyData.shown (.int n.r)).length ≤ 1001) && (decide ((PyData.shown (.int n.b)).length ≤ 1001) && true)))) = true
    rw [decide_eq_true (int_short h.1), decide_eq_true (int_short h.2.1), decide_eq_true (int_short r), decide_eq_true (int_short h.2.2)]; rfl)
  have e2 : (d4 n).bulk = 4 := rfl
  rw [e2] at e
  rw [sizeLine_eq]; omega
theorem rd4 {K : PySem.W.Frag} {H : Hp} {v : V} {n : Nm} {Q : VK} (t : T4 H v n) (h : B3 1000 n) (r : Bd 1000 n.r) (q : Q (.str (d4 n).shown) H) : rRepr K [v] H Q := by
  have k : ∀ {i : Int}, Bd 1000 i → i.natAbs.log2 < 1920 := fun b => Nat.lt_trans (bd_log b (by decide)) (by decide)
  refine ⟨v, d4 n, rfl, t.dp, ?_, rfl, d4_short h r, (by show 1 ≤ 64; decide), q⟩
  show (decide (n.t.natAbs.log2 < 1920) && (decide (n.p.natAbs.log2 < 1920) && (decide (n.r.natAbs.log2 < 1920) && (decide (n.b.natAbs.log2 < 1920) && true)))) = true
  rw [decide_eq_true (k h.1), decide_eq_true (k h.2.1), decide_eq_true (k r), decide_eq_true (k h.2.2)]; rfl
theorem rdI {K : PySem.W.Frag} {H : Hp} {i : Int} {Q : VK} (h : Bd 1000 i) (q : Q (.str (PyData.shown (.int i))) H) : rRepr K [.int i] H Q :=
  ⟨_, .int i, rfl, .int i, decide_eq_true (Nat.lt_trans (bd_log h (by decide)) (by decide)), rfl, by have := int_short h; rw [sizeLine_eq]; omega, by show 0 ≤ 64; decide, q⟩
theorem sgn_abs1 (v : Int) : (sgn v).natAbs ≤ 1 := sgn_abs v
theorem sgnSum_abs (t p r : Int) : (sgnSum t p r).natAbs ≤ 1 := by
  unfold sgnSum
  split
  · exact sgn_abs t
  · split
    · exact sgn_abs p
    · rw [Int.natAbs_mul]
      exact Nat.mul_le_mul (sgn_abs t) (sgn_abs _)
theorem fdiv_bd {x b : Int} {k : Nat} (h : Bd k x) (b0 : 0 < b) : Bd (k + 1) (x.fdiv b) := by
  have d := fdiv_bds x b0
  unfold Bd at *
  have l : (x.fdiv b).natAbs ≤ x.natAbs + 1 := by
    by_cases c : 0 ≤ x.fdiv b
    · have := Int.mul_le_mul_of_nonneg_left (show 1 ≤ b by omega) c
      omega
    · have := Int.mul_le_mul_of_nonneg_left (show 1 ≤ b by omega) (show 0 ≤ -(x.fdiv b) - 1 by omega)
      have e : (-(x.fdiv b) - 1) * b = -(x.fdiv b * b) - b := by grind
      omega
  rw [Nat.pow_succ]; omega
theorem floor_bd {R : Int} {n : Nm} (h : Okn R n) (hR : okR R) (b : B3 101 n) : Bd 400 (floorN n.t n.p n.r n.b) := by
  have hb := h.nrm.b
  unfold floorN
  split
  · exact (fdiv_bd b.1 hb).mono (by decide)
  · have k : ((isq (n.p * n.p * n.r).toNat : Nat) : Int).natAbs ≤ 2 ^ 106 := by
      rw [Int.natAbs_natCast]
      refine isq_bits _ (Nat.lt_of_le_of_lt ?_ ((b.2.1.mul b.2.1).mul (h.rb hR)))
      omega
    generalize ((isq (n.p * n.p * n.r).toNat : Nat) : Int) = q at *
    have bq : Bd 107 q := Nat.lt_of_le_of_lt k (Nat.pow_lt_pow_right (by decide) (by decide))
    have b1 : Bd 108 (if 0 < n.p then q else -q - 1) := by
      split
      · exact bq.mono (by decide)
      · exact Bd.sub (n := 107) bq.neg (bd_sm (by decide) (by decide)) rfl
    exact (fdiv_bd (Bd.add (n := 108) (m := 109) (b.1.mono (by decide)) b1 rfl) hb).mono (by decide)
theorem and_split {p : Prop} [Decidable p] {A S B C : Prop} (rest : C → B) (hc : ¬ p → C) (h : (C → B) → p → S) : if decide p = true then S else (if false = true then A else B) := ite_dec (h rest) fun z => rest (hc z)
section
variable {K : PySem.W.Frag} {mg : Str → Option Value} {CN CF : Addr} {H : Hp} {x y : V} {a b : Nm} {Q : VK} {R : Int}
theorem At4.sl {v : V} {n : Nm} {C : Addr} (h : At4 C H v n) {sp : Sp} {E : XK} (k : sp [v] H Q E) : ∃ a dx vs, v = .ref a ∧ Slt H a C dx vs ∧ sp [.ref a] H Q E := by
  obtain ⟨a, dx, rfl, s⟩ := h
  exact ⟨a, dx, _, rfl, s, k⟩
theorem At4.neg {v : V} {n : Nm} {C : Addr} (h : At4 C H v n) {sp : Sp} {E : XK} (k : sp [v] H Q E) : rNegS C sp E v H Q := by
  obtain ⟨a, dx, rfl, s⟩ := h
  exact ⟨a, dx, _, rfl, s, k⟩
theorem At4.me {v : V} {n : Nm} {C : Addr} (h : At4 C H v n) {P : Prop} (k : P) : ∃ a dx vs, v = .ref a ∧ Slt H a C dx vs ∧ P := by
  obtain ⟨a, dx, rfl, s⟩ := h
  exact ⟨a, dx, _, rfl, s, k⟩
theorem bin2 {g : Nm → Nm → Nm} {C : Nm → Nm → Prop} (hR : okR R) (ka : Okn R a) (kb : Okn R b) (ba : B3 1000 a) (bb : B3 1000 b) (hx : At4 CN H x a) (hy : NI CN H y b) (c : C a b) (q : ∀ v H', Same H H' → At4 CN H' v (g a b) → Q v H') : spBin CN g C [x, y] H Q E0 :=
  ⟨x, y, a, b, rfl, hx, hy, ka.cm kb, ka.gd hR ba.1 ba.2.1 ba.2.2, kb.gd hR bb.1 bb.2.1 bb.2.2, c, q⟩
theorem bin1 {g : Nm → Nm → Nm} {C : Nm → Nm → Prop} (hR : okR R) (ka : Okn R a) (kb : Okn R b) (ba : B3 1000 a) (bb : B3 1000 b) (hx : At4 CN H x a) (hy : NI CN H y b) (c : C a b) (q : ∀ v H', Same H H' → At4 CN H' v (g a b) → Q v H') : rBin CN (spBin CN g C) x y H Q := by
  have s := bin2 (Q := Q) hR ka kb ba bb hx hy c q
  refine ⟨?_, ?_, s⟩
  · obtain ⟨p, dx, rfl, k⟩ := hx; exact ⟨p, dx, _, rfl, k⟩
  · rcases hy with hy | ⟨i, rfl, _⟩
    · obtain ⟨p, dx, rfl, k⟩ := hy; exact .inl ⟨p, dx, _, rfl, k⟩
    · exact .inr ⟨i, rfl⟩
theorem cmp1 (T : NTxt K mg CN CF) {neg : Bool} (hx : At4 CN H x a) (hy : At4 CN H y b) (q : Q (.bl (if neg then !decide (a = b) else decide (a = b))) H) : rCmpS K CN neg (spEq K CN) E0 x y H Q := by
  have ty := hy.ty T.cN T.yN
  obtain ⟨p, dx, rfl, k⟩ := hx
  exact ⟨p, dx, _, .ref CN, rfl, k, ty, by unfold PySem.W.notFirst; simp, _, _, a, rfl, ⟨p, dx, rfl, k⟩, .inl ⟨b, hy, _, rfl, q⟩⟩
theorem un1 {g : Nm → Nm} (hR : okR R) (ka : Okn R a) (ba : B3 1000 a) (hx : At4 CN H x a) (q : ∀ v H', Same H H' → At4 CN H' v (g a) → Q v H') : spUn CN g [x] H Q E0 := ⟨x, a, rfl, hx, ka.gd hR ba.1 ba.2.1 ba.2.2, q⟩
theorem int1 {g : Nm → Int} (hR : okR R) (ka : Okn R a) (ba : B3 1000 a) (hx : At4 CN H x a) (q : Q (.int (g a)) H) : spInt CN g [x] H Q E0 := ⟨x, a, rfl, hx, ka.gd hR (ba.1.mono (by decide)) (ba.2.1.mono (by decide)) (ba.2.2.mono (by decide)), q⟩
end
theorem num_made2 {CN CF : Addr} {H : Hp} {G : Addr → Hp → Prop} {vs : List V} {n : Nm} (h : Arg4 CF H vs n) (q : ∀ x H', Same H H' → At4 CN H' (.ref x) n → G x H') :
    ∀ x dx, H x = none → H dx = none → dx ≠ x → spNumI CN CF (.ref x :: vs) (upd (upd H dx (.own x)) x (.ins CN dx [])) (fun v H2 => v = .non ∧ G x H2) E0 := fun x dx nx nd ne =>
  num_made (Q := fun v H2 => ∃ y, v = .ref y ∧ G y H2) h (fun v H' s a => by
    have a' := a
    obtain ⟨y, _, rfl, _⟩ := a
    exact ⟨y, rfl, q y H' s a'⟩) x dx nx nd ne |> fun z => by
      obtain ⟨a, dx', rest, n', e, ne', hs, ha, k⟩ := z
      exact ⟨a, dx', rest, n', e, ne', hs, ha, fun H1 s => by
        obtain ⟨e1, y, e2, g⟩ := k H1 s
        obtain rfl : x = y := V.ref.inj e2
        exact ⟨rfl, g⟩⟩
/-- a comprehension that reckons each item by itself -/
theorem lc_map {α : Type} {K : PySem.W.Frag} {a : Addr} {xs : List V} {te : TE} {j : Nat} {σ : L2.St} {H1 : Hp} {D : Addr} {Qd : Hp → Prop} (G : Hp → V → α → Prop) (ns : List α) (hx : H1 a = some (.lst xs)) (hl : xs.length = ns.length) (hs : ns.length ≤ 1000) (hD : H1 D = none)
    (stab : ∀ H H' v n l, H D = some (.lst l) → G H v n → SameB D H H' → G H' v n)
    (step : ∀ (k : Nat) x n H', xs[k]? = some x → ns[k]? = some n → Same H1 H' → ∀ Q : VK, (∀ y H'', Same H' H'' → G H'' y n → Q y H'') → te ((wipe σ [j]).set j (some x)) H' Q)
    (fin : ∀ H' vs, Same H1 H' → H' D = some (.lst vs) → All2 (G H') vs ns → Qd H') :
    ∃ W : Nat → Nat → Hp → Prop, (∃ m, W 0 m (upd H1 D (.lst []))) ∧ ∀ i m H, W i m H →
      ((Itl K a).stop i H ∧ Qd H) ∨ ((Itl K a).go i H ∧ ∃ Nx : Hp → Prop, (∀ H', Nx H' → ∃ m', m' < m ∧ W (i + 1) m' H') ∧ ∀ x H', (Itl K a).yld i H x H' → gName j x (wipe σ [j]) H' fun σ2 H2 => wipe σ2 [j] = wipe σ [j] ∧ tYes σ2 H2 fun b H3 =>
        if b = true then te σ2 H3 fun y H4 => ∃ acc, H4 D = some (.lst acc) ∧ acc.length < sizeLine ∧ Nx (upd H4 D (.lst (acc ++ [y]))) else Nx H3) := by
  have aD : a ≠ D := ne_of_none hx hD
  refine lc_list (xs := xs) (fun i H' => ∃ vs, H' D = some (.lst vs) ∧ Same H1 H' ∧ All2 (G H') vs (ns.take i)) ⟨[], upd_same, same_upd hD, by rw [List.take_zero]; exact .nil⟩ (fun i H' _ ⟨_, _, s, _⟩ => .of (s _ _ hx)) ?_ ?_
  · rintro i x H' hi ⟨vs, hv, s, al⟩
    have li : i < ns.length := by
      have := (List.getElem?_eq_some_iff.mp hi).1
      omega
    refine ⟨by show ((wipe σ [j]).set j (some x)).set j none = _; show (((σ.set j none).set j (some x)).set j none) = σ.set j none; rw [List.set_set, List.set_set], ?_⟩
    refine step i x ns[i] H' hi (List.getElem?_eq_getElem li) s _ fun y H'' s' g => ⟨vs, s' _ _ hv, ?_, _, upd_same, ?_, ?_⟩
    · have := al.len
      rw [this, List.length_take, sizeLine_eq]; omega
    · intro b o e
      rw [upd_ne (ne_of_none e hD)]
      exact s' _ _ (s _ _ e)
    · have e : ns.take (i + 1) = ns.take i ++ [ns[i]] := by rw [List.take_succ, List.getElem?_eq_getElem li]; rfl
      rw [e]
      have sb : SameB D H'' (upd H'' D (.lst (vs ++ [y]))) := (SameB.refl D H'').upd
      refine All2.snoc (al.imp fun v n g => stab _ _ v n _ hv g ?_) (stab _ _ y _ _ (s' _ _ hv) g sb)
      exact (Same.b s').trans sb
  · rintro H' ⟨vs, hv, s, al⟩
    rw [hl, List.take_length] at al
    exact fin H' vs s hv al
theorem T4.stab {H H' : Hp} {v : V} {n : Nm} {D : Addr} {l : List V} (h : H D = some (.lst l)) (t : T4 H v n) (s : SameB D H H') : T4 H' v n := by
  obtain ⟨a, rfl, e⟩ := t
  exact ⟨a, rfl, s _ _ (fun z => by rw [z, h] at e; cases e) e⟩
theorem At4.stab {C : Addr} {H H' : Hp} {v : V} {n : Nm} {D : Addr} {l : List V} (h : H D = some (.lst l)) (t : At4 C H v n) (s : SameB D H H') : At4 C H' v n := by
  obtain ⟨a, dx, rfl, e⟩ := t
  refine ⟨a, dx, rfl, ?_⟩
  rcases e with ⟨_, h2⟩ | ⟨h1, h2⟩
  · cases h2
  · exact .inr ⟨s _ _ (fun z => by rw [z, h] at h1; unfold SlO at h1; cases h1) h1, s _ _ (fun z => by rw [z, h] at h2; cases h2) h2⟩
/-- a row drawn -/
structure Row (R : Int) (n : Nm) : Prop where
  b0 : n.b ≠ 0
  r : n.r = R ∨ n.r = 0
  z : n.r = 0 → n.p = 0
  b3 : B3 101 n
def nrmN (n : Nm) : Nm := mkNm n.t n.p n.r n.b
theorem Row.okn {R : Int} {n : Nm} (h : Row R n) : Okn R (nrmN n) := Okn.mk' h.b0 (fun p => h.r.resolve_right fun z => p (h.z z)) fun z => h.z (h.r.elim (fun e => e.trans z) id)
theorem Row.nb3 {R : Int} {n : Nm} (h : Row R n) : B3 101 (nrmN n) := mk_bd h.b3.1 h.b3.2.1 h.b3.2.2
theorem Row.ok {R : Int} {n : Nm} (h : Row R n) (hR : okR R) : okRoot n.r n.p := by
  by_cases c : n.r = 0
  · exact .inl ⟨c, h.z c⟩
  · exact .inr (by rw [h.r.resolve_right c]; exact okR_root hR fun z => c (by rw [h.r.resolve_right c, z]))
theorem and_splitH {p : Prop} [Decidable p] {A S : Prop} {B : Hp → Prop} {H : Hp} (rest : ∀ H', Same H H' → B H') (h : (∀ H', Same H H' → B H') → ¬ p → S) : if (!decide p) = true then S else (if false = true then A else B H) := ite_ndec (h rest) fun _ => rest H (Same.refl H)
end PF

set_option Elab.async false
set_option linter.all false
set_option maxRecDepth 100000
set_option maxHeartbeats 4000000
set_option exponentiation.threshold 20000
namespace PF
open PySem PySem.Spec PyProof.Rows L2 SlX
/-! ### what never changes, frozen -/
/-- of H' all that can't change, of the rest what F has -/
def frzH (F H' : Hp) : Hp := fun b => match H' b with
  | some o => if mutb o = true then F b else some o
  | none => none
theorem frz_ext {p : Option Addr} {F H H' : Hp} (s : Same F H) (e : Same H H') : ExtX p F H (frzH F H') H' := by
  refine ⟨fun b o h => ?_, fun b o h => ?_, fun b o _ h => e b o h, fun b o h m => ?_, fun b o h m => ⟨o, e b o h, m⟩, fun b h => ?_⟩
  · have h1 := e b o (s b o h)
    unfold frzH
    rw [h1]
    show (if mutb o = true then F b else some o) = some o
    rw [h]; split <;> rfl
  · unfold frzH at h
    cases z : H' b with
    | none => rw [z] at h; cases h
    | some u =>
      rw [z] at h
      replace h : (if mutb u = true then F b else some u) = some o := h
      by_cases c : mutb u = true
      · rw [if_pos c] at h
        rw [← z]; exact e b o (s b o h)
      · rw [if_neg c] at h; exact h
  · have h1 := e b o h
    unfold frzH
    rw [h1]
    show (if mutb o = true then F b else some o) = F b
    rw [if_pos m]
  · cases z : H b with
    | none => exact absurd z h
    | some o => rw [e b o z]; simp
theorem frz_at {F H' : Hp} {b : Addr} {o : HO} (h : H' b = some o) (m : mutb o = false) : frzH F H' b = some o := by
  unfold frzH
  rw [h]
  show (if mutb o = true then F b else some o) = some o
  rw [if_neg (by rw [m]; exact Bool.false_ne_true)]
theorem Wo.ext' {k : Cn} {F H F' H' : Hp} {c : Nat} (w : Wo k F H c) (x : ExtX none F H F' H') : ExtX k.p F H F' H' ∧ Wo k F' H' c := w.call x
section
variable {Γ : Type} {α β γ : Type} {μ : Md} {E : EV Γ} {Ra : Rp α} {Rb : Rp β} {R : Rp γ} {K : PySem.W.Frag} {CN CF : Addr}
/-- what is made anew by a promise that tells Same alone -/
theorem VP.same {k : Cn} {F H H' : Hp} {c : Nat} {Q : VK} {v : V} {a : α} (w : Wo k F H c) (q : VP k F H Ra Q a c) (e : Same H H') (r : Ra.r (frzH F H') v a) : Q v H' := by
  obtain ⟨x, w'⟩ := w.call (frz_ext (p := none) w.sub e)
  exact q v _ H' x w' r
theorem At4.frz {F H' : Hp} {v : V} {n : Nm} {C : Addr} (h : At4 C H' v n) : At4 C (frzH F H') v n := by
  obtain ⟨a, dx, rfl, h⟩ := h
  refine ⟨a, dx, rfl, ?_⟩
  rcases h with ⟨_, h2⟩ | ⟨h1, h2⟩
  · cases h2
  · refine .inr ⟨frz_at h1 rfl, frz_at h2 rfl⟩
def rNum (CN : Addr) : Rp Nm := ⟨fun F v n => At4 CN F v n, fun s h => h.same s⟩
/-- a number or an integer -/
def rNI (CN : Addr) : Rp Nm := ⟨fun F v n => NI CN F v n, fun s h => h.imp (fun h => h.same s) id⟩
theorem NI.same {F H : Hp} {v : V} {n : Nm} (h : NI CN F v n) (s : Same F H) : NI CN H v n := h.imp (fun h => h.same s) id
/-- one kind taken for another -/
theorem e_coe {te : TE} {m : Γ → M α} {f : α → β} (h : ∀ {F : Hp} {v : V} {a : α}, Ra.r F v a → Rb.r F v (f a)) (he : SE μ E Ra te m) : SE μ E Rb te fun ρ => (m ρ).bind fun a => .ret (f a) := fun k F H σ ρ c Q w e q =>
  he k F H σ ρ c Q w e (wp_imp q fun a c1 z v F1 H1 x1 w1 r1 => z v F1 H1 x1 w1 (h r1))
theorem coe_num {F : Hp} {v : V} {a : Nm} (h : (rNum CN).r F v a) : (rNI CN).r F v (id a) := .inl h
theorem coe_int {F : Hp} {v : V} {i : Int} (h : rInt.r F v i) : (rNI CN).r F v (mkNm i 0 0 1) := .inr ⟨i, h, rfl⟩
def Two (a b : Nm) : Prop := Cm a b ∧ Gd 1000 a ∧ Gd 1000 b
theorem o_num {g : Nm → Nm → Nm} {C : Nm → Nm → Prop} : OpS μ (rBin CN (spBin CN g C)) (rNum CN) (rNI CN) (rNum CN) fun a b => .need (Two a b ∧ C a b) (.ret (g a b)) := fun k F H c x y a b Q w hx hy ⟨⟨⟨q1, q2, q3⟩, q4⟩, q⟩ => by
  have hx' : At4 CN H x a := At4.same hx w.sub
  have hy' : NI CN H y b := hy.same w.sub
  refine ⟨?_, ?_, x, y, a, b, rfl, hx', hy', q1, q2, q3, q4, fun v H' s h => VP.same w q s h.frz⟩
  · obtain ⟨p, dx, rfl, k⟩ := hx'; exact ⟨p, dx, _, rfl, k⟩
  · rcases hy' with hy | ⟨i, rfl, _⟩
    · obtain ⟨p, dx, rfl, k⟩ := hy; exact .inl ⟨p, dx, _, rfl, k⟩
    · exact .inr ⟨i, rfl⟩
/-- x.m(y) -/
theorem e_numBin {g : Nm → Nm → Nm} {C : Nm → Nm → Prop} {ta tb : TE} {ma mb : Γ → M Nm} (ha : SE md0 E (rNum CN) ta ma) (hb : SE md0 E (rNI CN) tb mb) : SE md0 E (rNum CN) (tMethSl CN (spBin CN g C) E0 ta (tCons tb tNil)) fun ρ => (ma ρ).bind fun a => (mb ρ).bind fun b => .need (Two a b ∧ C a b) (.ret (g a b)) := fun k F H σ ρ c Q w e h =>
  ha k F H σ ρ c _ w e (wp_imp h fun a c1 q v F1 H1 x1 w1 r1 => by
    have r1' : At4 CN H1 v a := At4.same r1 w1.sub
    obtain ⟨p, dx, rfl, kk⟩ := r1'
    refine ⟨p, dx, _, rfl, kk, hb k F1 H1 σ ρ c1 _ w1 (e.step x1) (wp_imp q fun b c2 ⟨⟨⟨q1, q2, q3⟩, q4⟩, q⟩ v2 F2 H2 x2 w2 r2 => ?_)⟩
    exact ⟨_, v2, a, b, rfl, At4.same (At4.same r1 x2.fz) w2.sub, NI.same r2 w2.sub, q1, q2, q3, q4, fun v H' s h => VP.same w2 (VP.ext (x1.trans x2) q) s h.frz⟩)
theorem e_numCmp {ta tb : TE} {ma mb : Γ → M Nm} (ha : SE md0 E (rNum CN) ta ma) (hb : SE md0 E (rNI CN) tb mb) : SE md0 E rInt (tMethSl CN (spCmp CN) E0 ta (tCons tb tNil)) fun ρ => (ma ρ).bind fun a => (mb ρ).bind fun b => .need (Two a b) (.ret (cmpN a b)) := fun k F H σ ρ c Q w e h =>
  ha k F H σ ρ c _ w e (wp_imp h fun a c1 q v F1 H1 x1 w1 r1 => by
    have r1' : At4 CN H1 v a := At4.same r1 w1.sub
    obtain ⟨p, dx, rfl, kk⟩ := r1'
    refine ⟨p, dx, _, rfl, kk, hb k F1 H1 σ ρ c1 _ w1 (e.step x1) (wp_imp q fun b c2 ⟨⟨q1, q2, q3⟩, q⟩ v2 F2 H2 x2 w2 r2 => ?_)⟩
    exact ⟨_, v2, a, b, rfl, At4.same (At4.same r1 x2.fz) w2.sub, NI.same r2 w2.sub, q1, q2, q3, fun H' s => VP.same w2 (VP.ext (x1.trans x2) q) s rfl⟩)
theorem e_numInt {g : Nm → Int} {ta : TE} {ma : Γ → M Nm} (ha : SE md0 E (rNum CN) ta ma) : SE md0 E rInt (tPropSl CN (spInt CN g) E0 ta) fun ρ => (ma ρ).bind fun a => .need (Gd 3800 a) (.ret (g a)) := fun k F H σ ρ c Q w e h =>
  ha k F H σ ρ c _ w e (wp_imp h fun a c1 ⟨q1, q⟩ v F1 H1 x1 w1 r1 => by
    have r1' : At4 CN H1 v a := At4.same r1 w1.sub
    have r1'' := r1'
    obtain ⟨p, dx, rfl, kk⟩ := r1'
    exact ⟨p, dx, _, rfl, kk, _, a, rfl, r1'', q1, q _ F1 H1 x1 w1 rfl⟩)
theorem e_numInt0 {g : Nm → Int} {ta : TE} {ma : Γ → M Nm} (ha : SE md0 E (rNum CN) ta ma) : SE md0 E rInt (tPropSl CN (spInt0 CN g) E0 ta) fun ρ => (ma ρ).bind fun a => .ret (g a) := fun k F H σ ρ c Q w e h =>
  ha k F H σ ρ c _ w e (wp_imp h fun a c1 q v F1 H1 x1 w1 r1 => by
    have r1' : At4 CN H1 v a := At4.same r1 w1.sub
    have r1'' := r1'
    obtain ⟨p, dx, rfl, kk⟩ := r1'
    exact ⟨p, dx, _, rfl, kk, _, a, rfl, r1'', q _ F1 H1 x1 w1 rfl⟩)
theorem e_numUn {g : Nm → Nm} {ta : TE} {ma : Γ → M Nm} (ha : SE md0 E (rNum CN) ta ma) : SE md0 E (rNum CN) (tPropSl CN (spUn CN g) E0 ta) fun ρ => (ma ρ).bind fun a => .need (Gd 1000 a) (.ret (g a)) := fun k F H σ ρ c Q w e h =>
  ha k F H σ ρ c _ w e (wp_imp h fun a c1 ⟨q1, q⟩ v F1 H1 x1 w1 r1 => by
    have r1' : At4 CN H1 v a := At4.same r1 w1.sub
    have r1'' := r1'
    obtain ⟨p, dx, rfl, kk⟩ := r1'
    exact ⟨p, dx, _, rfl, kk, _, a, rfl, r1'', q1, fun v H' s h => VP.same w1 (VP.ext x1 q) s h.frz⟩)
theorem e_numNeg {g : Nm → Nm} {ta : TE} {ma : Γ → M Nm} (ha : SE md0 E (rNum CN) ta ma) : SE md0 E (rNum CN) (tUn (rNegS CN (spUn CN g) E0) ta) fun ρ => (ma ρ).bind fun a => .need (Gd 1000 a) (.ret (g a)) := fun k F H σ ρ c Q w e h =>
  ha k F H σ ρ c _ w e (wp_imp h fun a c1 ⟨q1, q⟩ v F1 H1 x1 w1 r1 => by
    have r1' : At4 CN H1 v a := At4.same r1 w1.sub
    have r1'' := r1'
    obtain ⟨p, dx, rfl, kk⟩ := r1'
    exact ⟨p, dx, _, rfl, kk, _, a, rfl, r1'', q1, fun v H' s h => VP.same w1 (VP.ext x1 q) s h.frz⟩)
/-- ==, != beside a number -/
theorem o_numEq (T : ∀ {H : Hp} {y : V} {b : Nm}, At4 CN H y b → TyY K H y (.ref CN)) : OpS μ (rCmpS K CN false (spEq K CN) E0) (rNum CN) (rNum CN) rBl fun a b => .ret (decide (a = b)) := fun k F H c x y a b Q w hx hy q => by
  have hx' : At4 CN H x a := At4.same hx w.sub
  have hy' : At4 CN H y b := At4.same hy w.sub
  have hx2 := hx'
  obtain ⟨p, dx, rfl, kk⟩ := hx'
  exact ⟨p, dx, _, .ref CN, rfl, kk, T hy', by unfold PySem.W.notFirst; simp, _, _, a, rfl, hx2, .inl ⟨b, hy', _, rfl, VP.now w q rfl⟩⟩
theorem o_numNe (T : ∀ {H : Hp} {y : V} {b : Nm}, At4 CN H y b → TyY K H y (.ref CN)) : OpS μ (rCmpS K CN true (spEq K CN) E0) (rNum CN) (rNum CN) rBl fun a b => .ret (!decide (a = b)) := fun k F H c x y a b Q w hx hy q => by
  have hx' : At4 CN H x a := At4.same hx w.sub
  have hy' : At4 CN H y b := At4.same hy w.sub
  have hx2 := hx'
  obtain ⟨p, dx, rfl, kk⟩ := hx'
  exact ⟨p, dx, _, .ref CN, rfl, kk, T hy', by unfold PySem.W.notFirst; simp, _, _, a, rfl, hx2, .inl ⟨b, hy', _, rfl, VP.now w q rfl⟩⟩
/-- what is no number -/
def rOdd (K : PySem.W.Frag) (CN : Addr) : Rp Unit := ⟨fun F v _ => ∃ t, (∀ H, Same F H → TyY K H v t) ∧ PySem.W.kitOne K t (.ref CN) = some false ∧ PySem.W.notFirst K CN t = true, fun s ⟨t, h, k⟩ => ⟨t, fun H s' => h H (s.trans s'), k⟩⟩
theorem o_oddEq {K : PySem.W.Frag} : OpS μ (rCmpS K CN false (spEq K CN) E0) (rNum CN) (rOdd K CN) rBl fun _ _ => .ret false := fun k F H c x y a b Q w hx ⟨t, ht, hk, hn⟩ q => by
  have hx' : At4 CN H x a := At4.same hx w.sub
  have hx2 := hx'
  obtain ⟨p, dx, rfl, kk⟩ := hx'
  exact ⟨p, dx, _, t, rfl, kk, ht H w.sub, hn, _, _, a, rfl, hx2, .inr ⟨t, ht H w.sub, hk, _, rfl, VP.now w q rfl⟩⟩
theorem o_oddNe {K : PySem.W.Frag} : OpS μ (rCmpS K CN true (spEq K CN) E0) (rNum CN) (rOdd K CN) rBl fun _ _ => .ret true := fun k F H c x y a b Q w hx ⟨t, ht, hk, hn⟩ q => by
  have hx' : At4 CN H x a := At4.same hx w.sub
  have hx2 := hx'
  obtain ⟨p, dx, rfl, kk⟩ := hx'
  exact ⟨p, dx, _, t, rfl, kk, ht H w.sub, hn, _, _, a, rfl, hx2, .inr ⟨t, ht H w.sub, hk, _, rfl, VP.now w q rfl⟩⟩
/-! ### the dice -/
theorem e_roll {i : Nat} {g : Γ → Unit} {te : TE} {m : Γ → M Int} (hi : GetS E i sDice g) (he : SE md0 E rInt te m) : SE md0 E rInt (tCall spRoll [] E0 (tCons (tVar i) (tCons te tNil))) fun ρ => (m ρ).bind fun t => M.roll t := fun k F H σ ρ c Q w e h => by
  obtain ⟨o, h1, p, rfl, hp⟩ := hi.get e.r
  refine ⟨.ref p, h1, he k F H σ ρ c _ w e (wp_imp h fun t c1 ⟨q1, q2, q3, q⟩ v F1 H1 x1 w1 r1 => ?_)⟩
  obtain ⟨d1, d0, d2⟩ := w1.dice p hp
  refine ⟨p, t, c1, by rw [r1]; rfl, d2, by omega, q2, q3, fun r H' h1 h2 s d => ?_⟩
  have d2' := d2
  obtain ⟨_, _, _, hd, _⟩ := d2'
  have d' := d
  obtain ⟨_, _, _, hd', _⟩ := d'
  have x2 : ExtX (some p) F1 H1 F1 H' := ⟨Same.refl _, fun b o z => s b o (fun y => by subst y; rw [d1] at z; cases z) (w1.sub b o z), fun b o n z => s b o (fun y => n (by rw [y])) z, fun _ _ _ _ => rfl, fun b o z m => by
    by_cases y : b = p
    · subst y; exact ⟨_, hd', rfl⟩
    · exact ⟨o, s b o y z, m⟩, fun b z => by
    by_cases y : b = p
    · subst y; rw [hd']; simp
    · cases zz : H1 b with
      | none => exact absurd zz z
      | some o => rw [s b o y zz]; simp⟩
  obtain ⟨x3, w3⟩ := w1.callD hp x2 d1 d
  exact q r h1 h2 _ F1 H' (x1.trans x3) w3 rfl
theorem e_pick {i : Nat} {g : Γ → Unit} {tl : TE} {m : Γ → M (List α)} (hi : GetS E i sDice g) (hl : SE md0 E (rLs Ra) tl m) : SE md0 E Ra (tCall spPick [] E0 (tCons (tVar i) (tCons tl tNil))) fun ρ => (m ρ).bind fun t => M.pick t := fun k F H σ ρ c Q w e h => by
  obtain ⟨o, h1, p, rfl, hp⟩ := hi.get e.r
  refine ⟨.ref p, h1, hl k F H σ ρ c _ w e (wp_imp h fun xs c1 ⟨q1, q2, q3, q⟩ v F1 H1 x1 w1 ⟨l, vs, ev, hlF, al⟩ => ?_)⟩
  obtain ⟨d1, d0, d2⟩ := w1.dice p hp
  have len := al.len
  have lp : l ≠ p := fun z => by rw [z, d1] at hlF; cases hlF
  refine ⟨p, l, vs, c1, by rw [ev]; rfl, d2, by omega, w1.sub _ _ hlF, lp, by omega, by omega, fun u H' hu s d => ?_⟩
  have d2' := d2
  obtain ⟨_, _, _, hd, _⟩ := d2'
  have d' := d
  obtain ⟨_, _, _, hd', _⟩ := d'
  have x2 : ExtX (some p) F1 H1 F1 H' := ⟨Same.refl _, fun b o z => s b o (fun y => by subst y; rw [d1] at z; cases z) (w1.sub b o z), fun b o n z => s b o (fun y => n (by rw [y])) z, fun _ _ _ _ => rfl, fun b o z m => by
    by_cases y : b = p
    · subst y; exact ⟨_, hd', rfl⟩
    · exact ⟨o, s b o y z, m⟩, fun b z => by
    by_cases y : b = p
    · subst y; rw [hd']; simp
    · cases zz : H1 b with
      | none => exact absurd zz z
      | some o => rw [s b o y zz]; simp⟩
  obtain ⟨x3, w3⟩ := w1.callD hp x2 d1 d
  obtain ⟨j, hj, ej⟩ := List.getElem_of_mem hu
  have hj2 : j < xs.length := by omega
  obtain ⟨u', hu', r⟩ := al.get (List.getElem?_eq_getElem hj2)
  rw [List.getElem?_eq_getElem hj, ej] at hu'
  cases hu'
  exact q _ (List.getElem_mem hj2) u F1 H' (x1.trans x3) w3 r
end
end PF

set_option Elab.async false
set_option linter.all false
set_option maxRecDepth 100000
set_option maxHeartbeats 1000000
namespace PF
open PySem PySem.Spec PyProof.Rows L2 SlX
/-! ### str(x) by an own __str__ -/
section
variable {prog : Program} {w : World} {A : Around} {E : Value → Shared → Prop} {s : Shared} {K : PySem.W.Frag} {x C D f : Addr} {ox od : Obj} {odd : Option Obj}
theorem str_own {Q : Value → Shared → Prop} (hu : A.in1.in1.units + 1 < cLine) (X : K.In s.heap) (I : PySem.W.InstAt s.heap x ox C odd) (hs : PySem.W.findIn K (.ref C) "__str__" = some (some (.ref f))) (hf : PySem.W.isFn K (.ref f) = true)
    (h : wpAny (model prog w) A.in1.in1 (call (.ref f) [.ref x]) (fun r s₁ => ∃ n u, r = Value.str n u ∧ Q r s₁) E s) : wpAny (model prog w) A (call (.type "str") [.ref x]) Q E s := by
  refine callType_codes (T := "str") (Bi := Builtin.«object.__init__») (Q₁ := fun r s₁ => ∃ n u, r = Value.str n u ∧ Q r s₁) PySem.F.called_str (PySem.F.typeCall_str_1 _) PySem.F.entry_object_init ?_ ?_
  · refine codeAny_of_tree ?_
    show wpAny _ A.in1.in1 (do checkBuiltinCall "str.__new__" ⟨[.type "str", .ref x], []⟩; again (.builtin "str.__new__" ⟨[.type "str", .ref x], []⟩)) _ _ s
    refine wpAny_bind (wpAny_of_eq (PySem.F.newCall_str_1 _) (wpAny_pure ⟨plainId_quiet (by decide +kernel) _, codeAny_builtin PySem.F.entry_str_new ?_⟩))
    rw [Around.under_plainId (by decide +kernel) _]
    rw [str_new_tree]
    refine wpAny_bind (wpAny_pure ?_)
    refine wpAny_bind (wpAny_of_eq isSubtype_str_str ?_)
    have so : wpAny (model prog w) A.in1.in1 (Builtin.Str.strOf (.ref x)) (fun r s₁ => ∃ n u, r = Value.str n u ∧ Q r s₁) E s := by
      unfold Builtin.Str.strOf
      refine wpAny_bind (wpAny_cRoomFor (by omega) ?_)
      refine wpAny_bind (m := callSpecial? (.ref x) (Str.ofString "__str__")) (PySem.W.special_fn X I hs (beq_iff_eq.mp hf) (wpAny_mono h (fun r s' hr => ?_) fun _ _ y => y))
      obtain ⟨n, u, rfl, hq⟩ := hr
      exact wpAny_pure ⟨n, u, rfl, hq⟩
    refine wpAny_bind (wpAny_mono so (fun r s₁ hr => ?_) fun _ _ y => y)
    obtain ⟨n, u, rfl, hq⟩ := hr
    exact wpAny_pure ⟨n, u, rfl, hq⟩
  · rintro obj s₁ ⟨n, u, rfl, hq⟩
    exact ⟨typeIs_str _ _ _, PySem.F.args_object_init_2 _ _, object_init_meets PySem.F.called_str.init.lookup PySem.F.called_str.made (by decide) prog w A.in1 _ s₁ ⟨typeIs_str _ _ _, rfl, hq⟩⟩
end
/-- str(x), x an instance with slots -/
def rStrOwn (C : Addr) (sp : Sp) : List V → Hp → VK → Prop := fun xs H Q => ∃ a dx vs, xs = [V.ref a] ∧ Slt H a C dx vs ∧ sp [.ref a] H (fun z H' => ∃ i, z = .str i ∧ Q z H') E0
structure GS (P : Program) (w : World) (K : PySem.W.Frag) (mg : Str → Option Value) (base : Heap) (C : Addr) (k : Nat) (sp : Sp) : Prop where
  ex : ∃ g, PySem.W.findIn K (.ref C) "__str__" = some (some (.ref g)) ∧ PySem.W.isFn K (.ref g) = true ∧ FnR P w K mg base CX0 k g sp
theorem call_strN {X : Cx} {C : Addr} {n : Nat} {sp : Sp} (G : GS X.prog X.w X.K X.mg X.base C n sp) (hr : Room (n + 2) X.A) : CallR X (.type "str") (rStrOwn C sp) := by
  obtain ⟨g, hs, hf, F⟩ := G.ex
  intro pins s σ H xs us Q I r h
  obtain ⟨a, dx, vs, rfl, hsl, q⟩ := h
  obtain ⟨u, rfl, ru⟩ := r.one
  cases (show u = Value.ref a from ru)
  obtain ⟨sl, od, _, J, _⟩ := slt_inst I hsl
  have hr2 : Room n X.A.in1.in1 := (show Room (n + 1) X.A.in1 from Room.in1 hr).in1
  refine str_own (hu_of hr2) I.kIn J hs hf (wpAny_mono (wpAny_call (run_at (us := [.ref a]) (ws := [.ref a]) F hr2 I.env0.in1.in1 pass0 I (.cons rfl .nil) q)) (fun w s' z => ?_) fun _ _ x => x)
  obtain ⟨z', H', I', rz, i, ei, qz⟩ := z
  subst ei
  obtain ⟨t, e⟩ := (show ∃ t, w = Value.str i t from rz)
  cases e
  exact ⟨i, t, rfl, .str i, H', I', ⟨t, rfl⟩, qz⟩
end PF

set_option Elab.async false
set_option linter.all false
set_option maxRecDepth 100000
set_option maxHeartbeats 4000000
set_option exponentiation.threshold 20000
namespace PF
open PySem PySem.Spec PyProof.Rows L2 SlX
/-- the text of a number -/
def underT (b : Int) : Str := if b = 1 then "" else Str.empty ++ "/" ++ toString b
def wholeT (t p r : Int) : Str := Str.empty ++ toString t ++ (if 0 < p then "+" else "" : Str) ++ toString p ++ "r" ++ toString r
def toldT (t p r b : Int) : Str :=
  if p = 0 then Str.empty ++ toString t ++ underT b
  else if t = 0 then Str.empty ++ toString p ++ "r" ++ toString r ++ underT b
  else if b = 1 then wholeT t p r
  else Str.empty ++ "(" ++ wholeT t p r ++ ")" ++ underT b
def spTold : Sp := fun vs H Q _ => ∃ t p r b : Int, vs = [.int t, .int p, .int r, .int b] ∧ Bd 1900 t ∧ Bd 1900 p ∧ Bd 1900 r ∧ Bd 1900 b ∧ Q (.str (toldT t p r b)) H
section
variable {P : Program} {w : World} {K : PySem.W.Frag} {mg : Str → Option Value} {base : Heap} {f CN CF : Addr} {fd : FuncData}
theorem sc_told_number : FnScope ["top", "part", "root", "bottom", "under", "plus", "whole"] ["top", "part", "root", "bottom"] (defScope (topS 18)) := ⟨rfl, rfl, rfl, by decide +kernel, rfl, by decide +kernel, by decide +kernel⟩
theorem ok_told (F : Fun K "told_number" "told_number" (topS 18) f fd) (fr : Free mg) : FnOk P w K mg base CX0 2 f fd ["top", "part", "root", "bottom"] spTold := by
  refine F.ok sc_told_number (fun vs H Q E ⟨_, _, _, _, e, _⟩ => by rw [e]; rfl) (fun cdv A outer s H vs Q E hr h => ⟨_, (pss_cons (ps_set (i := 4) sc_told_number.nd rfl (by first | exact Or.inl rfl | exact Or.inr rfl) (pe_ifExp (pt_cmpR op_eq (pv 3) pe_int (nomark _)) pe_str (pe_joined (PJ.cons pe_str (PJ.cons (pe_fmt (pv 3)) PJ.nil)))))
  (pss_cons (ps_if (pt_cmpR op_eq (pv 1) pe_int (nomark _)) (pss_one (ps_ret (pe_joined (PJ.cons (pe_fmt (pv 0)) (PJ.cons (pe_fmt (pv 4)) PJ.nil))))) pss_nil)
  (pss_cons (ps_if (pt_cmpR op_eq (pv 0) pe_int (nomark _)) (pss_one (ps_ret (pe_joined (PJ.cons (pe_fmt (pv 1)) (PJ.cons pe_str (PJ.cons (pe_fmt (pv 2)) (PJ.cons (pe_fmt (pv 4)) PJ.nil))))))) pss_nil)
  (pss_cons (ps_set (i := 5) sc_told_number.nd rfl (by first | exact Or.inl rfl | exact Or.inr rfl) (pe_ifExp (pt_cmpR op_gt (pv 1) pe_int (nomark _)) pe_str pe_str))
  (pss_cons (ps_set (i := 6) sc_told_number.nd rfl (by first | exact Or.inl rfl | exact Or.inr rfl) (pe_joined (PJ.cons (pe_fmt (pv 0)) (PJ.cons (pe_fmt (pv 5)) (PJ.cons (pe_fmt (pv 1)) (PJ.cons pe_str (PJ.cons (pe_fmt (pv 2)) PJ.nil)))))))
  (pss_one (ps_ret (pe_ifExp (pt_cmpR op_eq (pv 3) pe_int (nomark _)) (pv 6) (pe_joined (PJ.cons pe_str (PJ.cons (pe_fmt (pv 6)) (PJ.cons pe_str (PJ.cons (pe_fmt (pv 4)) PJ.nil))))))))))))), ?_⟩)
  obtain ⟨t, p, r, b, rfl, bt, bp, br, bb, q⟩ := h
  have it : ∀ i : Int, Bd 1900 i → (Str.ofString (toString i)).length ≤ 1901 := fun i h => by
    have e := int_text_length_le (k := 1900) (by decide) (bd_log h (by decide))
    rw [PySem.ofString_length]; exact e
  have lg : ∀ i : Int, Bd 1900 i → i.natAbs.log2 < 1920 := fun i h => Nat.lt_trans (bd_log h (by decide)) (by decide)
  have L := sizeLine_eq
  have l1 := it t bt
  have l2 := it p bp
  have l3 := it r br
  have l4 := it b bb
  have e0 : Str.empty.length = 0 := rfl
  have e1 : (Str.ofString "/").length = 1 := rfl
  have e2 : (Str.ofString "r").length = 1 := rfl
  have e3 : (Str.ofString "(").length = 1 := rfl
  have e4 : (Str.ofString ")").length = 1 := rfl
  have e5 : (Str.ofString "+").length = 1 := rfl
  have e6 : (Str.ofString "").length = 0 := rfl
  have two : ∀ u pl : Str, u = underT b → u.length ≤ 2000 → pl = (if 0 < p then "+" else "" : Str) → pl.length ≤ 1 → p ≠ 0 → t ≠ 0 → tSeq (tAsg (fun σ H Q => tJs [tFmt (tVar 0), tFmt (tVar 5), tFmt (tVar 1), tC (V.str (Str.ofString "r")), tFmt (tVar 2)] Str.empty σ H fun out H1 => Q (V.str out) H1) (gName 6))
      (tRet (tIf (tTest (tOp rEq (tVar 3) (tC (V.int 1)))) (tVar 6) fun σ H Q => tJs [tC (V.str (Str.ofString "(")), tFmt (tVar 6), tC (V.str (Str.ofString ")")), tFmt (tVar 4)] Str.empty σ H fun out H1 => Q (V.str out) H1))
      { nx := fun x H' => Q V.non H', rt := Q } [some (.int t), some (.int p), some (.int r), some (.int b), some (.str u), some (.str pl), none] H := fun u pl hu lu hp lp p0 t0 => by
    have lw : (wholeT t p r).length ≤ 8000 := by
      unfold wholeT
      rw [← hp]
      simp only [Str.length_append, e0, e2]
      omega
    unfold toldT at q
    rw [if_neg p0, if_neg t0] at q
    refine ⟨_, rfl, .inr ⟨_, rfl, lg _ bt, _, rfl, (by simp only [Str.length_append, e0, e1, e2, e3, e4, e5, e6]; omega), _, rfl, .inl ⟨_, rfl, (by omega), _, rfl, (by simp only [Str.length_append, e0, e1, e2, e3, e4, e5, e6]; omega), _, rfl, .inr ⟨_, rfl, lg _ bp, _, rfl, (by simp only [Str.length_append, e0, e1, e2, e3, e4, e5, e6]; omega), _, rfl, (by simp only [Str.length_append, e0, e1, e2, e3, e4, e5, e6]; omega), _, rfl, .inr ⟨_, rfl, lg _ br, _, rfl, (by simp only [Str.length_append, e0, e1, e2, e3, e4, e5, e6]; omega), ?_⟩⟩⟩⟩⟩
    have ew : Str.empty ++ Str.ofString (toString t) ++ pl ++ Str.ofString (toString p) ++ Str.ofString "r" ++ Str.ofString (toString r) = wholeT t p r := by unfold wholeT; rw [← hp]
    rw [ew]
    refine ⟨_, rfl, rfl, _, rfl, ite_dec (fun c => ?_) fun c => ?_⟩
    · rw [if_pos (V.int.inj c)] at q
      exact ⟨_, rfl, q⟩
    · rw [if_neg fun z => c (congrArg V.int z), ← hu] at q
      exact ⟨_, rfl, (by simp only [Str.length_append, e0, e1, e2, e3, e4, e5, e6]; omega), _, rfl, .inl ⟨_, rfl, (by omega), _, rfl, (by simp only [Str.length_append, e0, e1, e2, e3, e4, e5, e6]; omega), _, rfl, (by simp only [Str.length_append, e0, e1, e2, e3, e4, e5, e6]; omega), _, rfl, .inl ⟨_, rfl, (by omega), _, rfl, (by simp only [Str.length_append, e0, e1, e2, e3, e4, e5, e6]; omega), q⟩⟩⟩
  have one : ∀ u : Str, u = underT b → u.length ≤ 2000 → tSeq (tIfS (tTest (tOp rEq (tVar 1) (tC (V.int 0)))) (tRet fun σ H Q => tJs [tFmt (tVar 0), tFmt (tVar 4)] Str.empty σ H fun out H1 => Q (V.str out) H1) tNext)
      (tSeq (tIfS (tTest (tOp rEq (tVar 0) (tC (V.int 0)))) (tRet fun σ H Q => tJs [tFmt (tVar 1), tC (V.str (Str.ofString "r")), tFmt (tVar 2), tFmt (tVar 4)] Str.empty σ H fun out H1 => Q (V.str out) H1) tNext)
      (tSeq (tAsg (tIf (tTest (tOp (rI0 fun i j => V.bl (decide (j < i))) (tVar 1) (tC (V.int 0)))) (tC (V.str (Str.ofString "+"))) (tC (V.str (Str.ofString "")))) (gName 5))
      (tSeq (tAsg (fun σ H Q => tJs [tFmt (tVar 0), tFmt (tVar 5), tFmt (tVar 1), tC (V.str (Str.ofString "r")), tFmt (tVar 2)] Str.empty σ H fun out H1 => Q (V.str out) H1) (gName 6))
      (tRet (tIf (tTest (tOp rEq (tVar 3) (tC (V.int 1)))) (tVar 6) fun σ H Q => tJs [tC (V.str (Str.ofString "(")), tFmt (tVar 6), tC (V.str (Str.ofString ")")), tFmt (tVar 4)] Str.empty σ H fun out H1 => Q (V.str out) H1)))))
      { nx := fun x H' => Q V.non H', rt := Q } [some (.int t), some (.int p), some (.int r), some (.int b), some (.str u), none, none] H := fun u hu lu => by
    refine ⟨_, rfl, rfl, _, rfl, ite_dec (fun c => ?_) fun c => ?_⟩
    · unfold toldT at q
      rw [if_pos (V.int.inj c), ← hu] at q
      exact ⟨_, rfl, .inr ⟨_, rfl, lg _ bt, _, rfl, (by simp only [Str.length_append, e0, e1, e2, e3, e4, e5, e6]; omega), _, rfl, .inl ⟨_, rfl, (by omega), _, rfl, (by simp only [Str.length_append, e0, e1, e2, e3, e4, e5, e6]; omega), q⟩⟩⟩
    refine ⟨_, rfl, rfl, _, rfl, ite_dec (fun c2 => ?_) fun c2 => ?_⟩
    · unfold toldT at q
      rw [if_neg fun z => c (congrArg V.int z), if_pos (V.int.inj c2), ← hu] at q
      exact ⟨_, rfl, .inr ⟨_, rfl, lg _ bp, _, rfl, (by simp only [Str.length_append, e0, e1, e2, e3, e4, e5, e6]; omega), _, rfl, (by simp only [Str.length_append, e0, e1, e2, e3, e4, e5, e6]; omega), _, rfl, .inr ⟨_, rfl, lg _ br, _, rfl, (by simp only [Str.length_append, e0, e1, e2, e3, e4, e5, e6]; omega), _, rfl, .inl ⟨_, rfl, (by omega), _, rfl, (by simp only [Str.length_append, e0, e1, e2, e3, e4, e5, e6]; omega), q⟩⟩⟩⟩
    refine ⟨_, rfl, _, _, rfl, rfl, _, rfl, ite_dec (fun c3 => ?_) fun c3 => ?_⟩
    · exact two u _ hu lu (if_pos c3).symm (by rw [e5]; exact Nat.le_refl 1) (fun z => c (congrArg V.int z)) fun z => c2 (congrArg V.int z)
    · exact two u _ hu lu (if_neg c3).symm (by rw [e6]; exact Nat.zero_le 1) (fun z => c (congrArg V.int z)) fun z => c2 (congrArg V.int z)
  refine ⟨_, rfl, rfl, _, rfl, ite_dec (fun c => ?_) fun c => ?_⟩
  · exact one _ (if_pos (V.int.inj c)).symm (by rw [e6]; exact Nat.zero_le _)
  · exact ⟨_, rfl, (by simp only [Str.length_append, e0, e1, e2, e3, e4, e5, e6]; omega), _, rfl, .inr ⟨_, rfl, lg _ bb, _, rfl, (by simp only [Str.length_append, e0, e1, e2, e3, e4, e5, e6]; omega), one _ (if_neg fun z => c (congrArg V.int z)).symm (by simp only [Str.length_append, e0, e1, e2, e3, e4, e5, e6]; omega)⟩⟩
end
end PF

set_option Elab.async false
set_option linter.all false
set_option maxRecDepth 100000
set_option maxHeartbeats 1000000
set_option exponentiation.threshold 20000
namespace PF
open PySem PySem.Spec PyProof.Rows L2 SlX
def spStr (CN : Addr) : Sp := fun vs H Q _ => ∃ x a, vs = [x] ∧ At4 CN H x a ∧ Gd 1900 a ∧ Q (.str (toldT a.t a.p a.r a.b)) H
section
variable {P : Program} {w : World} {K : PySem.W.Frag} {mg : Str → Option Value} {base : Heap} {f CN CF : Addr} {fd : FuncData}
theorem sc_Number___str__ : FnScope ["self"] ["self"] (defScope (inClass (topS 21) 18)) := ⟨rfl, rfl, rfl, by decide +kernel, rfl, by decide +kernel, by decide +kernel⟩
theorem ok_str (F : Fun K "__str__" "Number.__str__" (inClass (topS 21) 18) f fd) (fr : Free mg) (T : NTxt K mg CN CF) (G_told_number : GD P w K mg base "told_number" 2 spTold) : FnOk P w K mg base CX0 3 f fd ["self"] (spStr CN) := by
  refine F.ok sc_Number___str__ (fun vs H Q E ⟨_, _, e, _⟩ => by rw [e]; rfl) (fun cdv A outer s H vs Q E hr h => ⟨_, (pss_one (ps_ret (pe_callTy SkE.call_str_str (by rfl) fr.b_str (by decide +kernel) (pa_cons (pe_c1 G_told_number (hr.mono (by decide)) (pa_cons (pe_slC T.cN T.sN_top (pv 0)) (pa_cons (pe_slC T.cN T.sN_part (pv 0)) (pa_cons (pe_slC T.cN T.sN_root (pv 0)) (pa_cons (pe_slC T.cN T.sN_bottom (pv 0)) pa_nil))))) pa_nil)))), ?_⟩)
  obtain ⟨x, a, rfl, ⟨a_self, d_self, rfl, h_self⟩, g, q⟩ := h
  exact ⟨_, rfl, a_self, d_self, _, _, rfl, h_self, rfl, _, rfl, a_self, d_self, _, _, rfl, h_self, rfl, _, rfl, a_self, d_self, _, _, rfl, h_self, rfl, _, rfl, a_self, d_self, _, _, rfl, h_self, rfl, _, _, _, _, rfl, g.t, g.p, g.r.mono (by decide), g.b, _, rfl, q⟩
end
section
variable {Γ : Type} {E : EV Γ} {K : PySem.W.Frag} {mg : Str → Option Value} {CN CF : Addr}
theorem e_numStr {ta : TE} {ma : Γ → M Nm} (ha : SE md0 E (rNum CN) ta ma) : SE md0 E rStr (tCB (rStrOwn CN (spStr CN)) (tCons ta tNil)) fun ρ => (ma ρ).bind fun a => .need (Gd 1900 a) (.ret (toldT a.t a.p a.r a.b)) := fun k F H σ ρ c Q w e h =>
  ha k F H σ ρ c _ w e (wp_imp h fun a c1 ⟨q1, q⟩ v F1 H1 x1 w1 r1 => by
    have r1' : At4 CN H1 v a := At4.same r1 w1.sub
    have r2 := r1'
    obtain ⟨p, dx, rfl, kk⟩ := r1'
    exact ⟨p, dx, _, rfl, kk, _, a, rfl, r2, q1, _, rfl, q _ F1 H1 x1 w1 rfl⟩)
/-- Number(..) -/
theorem e_mkNum1 {ta : TE} {ma : Γ → M Int} (ha : SE md0 E rInt ta ma) : SE md0 E (rNum CN) (tMake CN (spNumI CN CF) [.int 0, .int 0, .int 1] E0 (tCons ta tNil)) fun ρ => (ma ρ).bind fun i => .ret (mkNm i 0 0 1) := fun k F H σ ρ c Q w e h =>
  ha k F H σ ρ c _ w e (wp_imp h fun i c1 q v F1 H1 x1 w1 r1 => by
    subst r1
    exact num_made (.inr ⟨i, 0, 0, 1, rfl, by decide, .inl ⟨rfl, rfl⟩, bd_sm (by decide) (by decide), rfl⟩) fun v H' s h => VP.same w1 (VP.ext x1 q) s h.frz)
theorem e_mkNum4 {ta tb tr tq : TE} {ma mb mr mq : Γ → M Int} {m : Nat} (ha : SE md0 E rInt ta ma) (hb : SE md0 E rInt tb mb) (hr : SE md0 E rInt tr mr) (hq : SE md0 E rInt tq mq) (hm : 2 = m := by rfl) :
    SE md0 E (rNum CN) (tMakeN CN 2 m (spNumI CN CF) (fun vs zs => vs ++ zs) E0 (tCons ta (tCons tb tNil)) (tCons tr (tCons tq tNil))) fun ρ => (ma ρ).bind fun a => (mb ρ).bind fun b => (mr ρ).bind fun r => (mq ρ).bind fun q => .need (q ≠ 0 ∧ okRoot r b ∧ Bd 9000 q) (.ret (mkNm a b r q)) := fun k F H σ ρ c Q w e h =>
  ha k F H σ ρ c _ w e (wp_imp h fun a c1 q v1 F1 H1 x1 w1 r1 => hb k F1 H1 σ ρ c1 _ w1 (e.step x1) (wp_imp q fun b c2 q v2 F2 H2 x2 w2 r2 => hr k F2 H2 σ ρ c2 _ w2 (e.step (x1.trans x2)) (wp_imp q fun r c3 q v3 F3 H3 x3 w3 r3 => hq k F3 H3 σ ρ c3 _ w3 (e.step ((x1.trans x2).trans x3)) (wp_imp q fun d c4 ⟨⟨q1, q2, q3⟩, q⟩ v4 F4 H4 x4 w4 r4 => by
    subst r1 r2 r3 r4
    exact ⟨rfl, hm, num_made (.inr ⟨a, b, r, d, rfl, q1, q2, q3, rfl⟩) fun v H' s h => VP.same w4 (VP.ext (((x1.trans x2).trans x3).trans x4) q) s h.frz⟩))))
/-- Python's own types are none of numbers -/
structure OTxt (K : PySem.W.Frag) (CN : Addr) : Prop where
  k : ∀ t ∈ (["int", "bool", "str", "NoneType", "list", "tuple", "dict"] : List String), PySem.W.kitOne K (.type t) (.ref CN) = some false ∧ PySem.W.notFirst K CN (.type t) = true
theorem odd_int (O : OTxt K CN) {F : Hp} {v : V} {a : Int} (h : rInt.r F v a) : (rOdd K CN).r F v () := by
  subst h; exact ⟨.type "int", fun H _ => .x (.base (.int a)), O.k _ (by simp)⟩
theorem odd_bl (O : OTxt K CN) {F : Hp} {v : V} {a : Bool} (h : rBl.r F v a) : (rOdd K CN).r F v () := by
  subst h; exact ⟨.type "bool", fun H _ => .x (.base (.bl a)), O.k _ (by simp)⟩
theorem odd_str (O : OTxt K CN) {F : Hp} {v : V} {a : Str} (h : rStr.r F v a) : (rOdd K CN).r F v () := by
  subst h; exact ⟨.type "str", fun H _ => .x (.base (.str a)), O.k _ (by simp)⟩
theorem odd_non (O : OTxt K CN) {F : Hp} {v : V} {a : Unit} (h : rNon.r F v a) : (rOdd K CN).r F v () := by
  subst h; exact ⟨.type "NoneType", fun H _ => .x (.base .non), O.k _ (by simp)⟩
theorem odd_lst {α : Type} {R : Rp α} (O : OTxt K CN) {F : Hp} {v : V} {a : List α} (h : (rLs R).r F v a) : (rOdd K CN).r F v () := by
  obtain ⟨p, vs, rfl, hp, _⟩ := h
  exact ⟨.type "list", fun H s => .x (.base (.lst (s _ _ hp))), O.k _ (by simp)⟩
theorem sqT_ty {H : Hp} {p : Addr} {vs : List V} (h : SqT K H p vs) : TyY K H (.ref p) (.type "tuple") := by
  rcases h with (h | ⟨o, h⟩) | ⟨o, its, n, h, c, _⟩
  · exact .x (.base (.tup h))
  · exact .x (.fTuple h)
  · exact .x (.kTuple h c)
theorem odd_tx {α : Type} {S : RA α} (O : OTxt K CN) {F : Hp} {v : V} {a : α} (h : (rTx K S).r F v a) : (rOdd K CN).r F v () := by
  obtain ⟨p, vs, rfl, hp, _⟩ := h
  exact ⟨.type "tuple", fun H s => sqT_ty (same_seqT s hp), O.k _ (by simp)⟩
theorem odd_tup {α : Type} {R : Rp α} (O : OTxt K CN) {F : Hp} {v : V} {a : List α} (h : (rTup K R).r F v a) : (rOdd K CN).r F v () := by
  obtain ⟨p, vs, rfl, hp, _⟩ := h
  exact ⟨.type "tuple", fun H s => sqT_ty (same_seqT s hp), O.k _ (by simp)⟩
/-- an empty dict -/
def rD0 : Rp Unit := ⟨fun F v _ => ∃ p, v = .ref p ∧ F p = some (.dK []), fun s ⟨p, e, h⟩ => ⟨p, e, s _ _ h⟩⟩
theorem odd_dict (O : OTxt K CN) {F : Hp} {v : V} {a : Unit} (h : rD0.r F v a) : (rOdd K CN).r F v () := by
  obtain ⟨p, rfl, hp⟩ := h
  exact ⟨.type "dict", fun H s => .x (.base (.dK (s _ _ hp))), O.k _ (by simp)⟩
theorem e_dnew {μ : Md} : SE μ E rD0 (fun σ H Q => ∀ d, H d = none → Q (.ref d) (upd H d (.dK []))) fun _ => .ret () := fun k F H σ ρ c Q w e q => fun d n => VP.newT w q n fun _ => ⟨d, rfl, upd_same⟩
end
end PF

set_option Elab.async false
set_option linter.all false
set_option maxRecDepth 100000
set_option maxHeartbeats 4000000
set_option exponentiation.threshold 20000
namespace PF
open PySem PySem.Spec PyProof.Rows L2 SlX
theorem perm_at {α : Type} : ∀ (l : List α) (j : Nat) (h : j < l.length), (l[j] :: l.eraseIdx j).Perm l
  | x :: xs, 0, _ => .refl _
  | x :: xs, j + 1, h => by
    have h' : j < xs.length := by simpa using h
    show (xs[j] :: x :: xs.eraseIdx j).Perm (x :: xs)
    exact (List.Perm.swap _ _ _).trans ((perm_at xs j h').cons x)
/-- a mixed list -/
def spMixed : Sp := fun vs H Q _ => ∃ (p l : Addr) (xs : List V) (c : Nat), vs = [.ref p, .ref l] ∧ Dice p H c ∧ c < 2 ^ 60 ∧ H l = some (.lst xs) ∧ l ≠ p ∧ xs.length ≤ 100 ∧ ∀ q H' ys, SameB p H H' → Dice p H' (c + xs.length) → H q = none → H' q = some (.lst ys) → ys.Perm xs → Q (.ref q) H'
section
variable {P : Program} {w : World} {K : PySem.W.Frag} {mg : Str → Option Value} {base : Heap} {f CN CF : Addr} {fd : FuncData}
theorem sc__law_mixed : FnScope ["_law_dice_here", "_law_items", "_law_left", "_law_found", "_law_turn"] ["_law_dice_here", "_law_items"] (defScope (topS 33)) := ⟨rfl, rfl, rfl, by decide +kernel, rfl, by decide +kernel, by decide +kernel⟩
theorem ok_mixed (F : Fun K "_law_mixed" "_law_mixed" (topS 33) f fd) (fr : Free mg) (G__law_roll : GD P w K mg base "_law_roll" 2 spRoll) : FnOk P w K mg base CX0 3 f fd ["_law_dice_here", "_law_items"] spMixed := by
  refine F.ok sc__law_mixed (fun vs H Q E ⟨_, _, _, _, e, _⟩ => by rw [e]; rfl) (fun cdv A outer s H vs Q E hr h => ⟨_, (pss_cons (ps_par (i := 2) (j := 3) (by rfl) sc__law_mixed.nd rfl rfl (by decide) rfl rfl (pa_cons (pe_callTy call_list_of (by rfl) fr.b_list (by decide +kernel) (pa_cons (pv 1) pa_nil)) (pa_cons (pe_lst pa_nil) pa_nil)) (by rfl))
  (pss_cons (ps_for PassesOwn.never rfl (pi_range1 (by rfl) fr.b_range (pa_cons (pe_callB call_len (by rfl) fr.b_len (by decide +kernel) (pa_cons (pv 1) pa_nil)) pa_nil)) (pg_name (i := 4) sc__law_mixed.nd rfl (by first | exact Or.inl rfl | exact Or.inr rfl)) (pss_one (ps_expr (pe_bm PySem.F.plainAttrs_list PySem.F.slot_list_append PySem.F.type_list_append mt_append (pv 3) (pa_cons (pe_bm PySem.F.plainAttrs_list PySem.F.slot_list_pop PySem.F.type_list_pop mt_popAt (pv 2) (pa_cons (pe_c1 G__law_roll (hr.mono (by decide)) (pa_cons (pv 0) (pa_cons (pe_callB call_len (by rfl) fr.b_len (by decide +kernel) (pa_cons (pv 2) pa_nil)) pa_nil))) pa_nil)) pa_nil)))))
  (pss_one (ps_ret (pv 3))))), ?_⟩)
  obtain ⟨p, l, xs, c, rfl, hd, hc, hl, ne, h0, q⟩ := h
  have hp : ∃ d, H p = some (.lst d) := by obtain ⟨_, _, _, h, _⟩ := hd; exact ⟨_, h⟩
  obtain ⟨d, hp⟩ := hp
  refine ⟨_, rfl, l, xs, rfl, .inl (.of hl), fun l1 n1 => ⟨by show 0 ≤ sizeLine; decide, fun l2 n2 => ⟨_, _, rfl, ?_⟩⟩⟩
  have s1 : Same H (upd H l1 (.lst xs)) := same_upd n1
  have s2 := s1.trans (same_upd (o := .lst []) n2)
  have u2 : upd (upd H l1 (.lst xs)) l2 (.lst []) l2 = some (.lst []) := upd_same
  have u1 : upd (upd H l1 (.lst xs)) l2 (.lst []) l1 = some (.lst xs) := same_upd n2 _ _ upd_same
  have p1 : l1 ≠ p := fun z => by rw [z, hp] at n1; cases n1
  have p2 : l2 ≠ p := fun z => by rw [z, s1 _ _ hp] at n2; cases n2
  have p12 : l1 ≠ l2 := fun z => by rw [← z, upd_same] at n2; cases n2
  have f2 : H l2 = none := by rw [upd_ne (Ne.symm p12)] at n2; exact n2
  have d2 : Dice p (upd (upd H l1 (.lst xs)) l2 (.lst [])) c := hd.same s2
  generalize upd (upd H l1 (.lst xs)) l2 (.lst []) = H2 at *
  refine ⟨_, rfl, _, xs.length, rfl, .inl ⟨_, .of (s2 _ _ hl), rfl⟩, _, rfl, by omega, by omega, ?_⟩
  rw [Int.toNat_natCast]
  refine for_range (lo := 0) (fun i σ H' => ∃ ys zs o, σ = [some (.ref p), some (.ref l), some (.ref l1), some (.ref l2), o] ∧ H' l1 = some (.lst ys) ∧ H' l2 = some (.lst zs) ∧ ys.length + i = xs.length ∧ zs.length = i ∧ (zs ++ ys).Perm xs ∧ SameB p H H' ∧ Dice p H' (c + i))
    ⟨xs, [], none, rfl, u1, u2, by omega, rfl, .refl _, Same.b s2, d2⟩ ?_ ?_
  · rintro i _ H3 hi ⟨ys, zs, o, rfl, y1, z1, ly, lz, pm, s3, d3⟩
    refine ⟨_, rfl, .inl ⟨rfl, _, .of z1⟩, _, rfl, .inl ⟨rfl, _, .of y1⟩, _, rfl, _, rfl, _, ys.length, rfl, .inl ⟨_, .of y1, rfl⟩, p, _, c + i, rfl, d3, by omega, by omega, bd_le 100 (by omega) (by decide), fun r H4 r0 r1 s4 d4 => ?_⟩
    obtain ⟨j, rfl⟩ : ∃ j : Nat, r = (j : Int) := ⟨r.toNat, by omega⟩
    have hj : j < ys.length := by omega
    have y4 := s4 _ _ p1 y1
    have z4 := s4 _ _ p2 z1
    have sq : seqIndex? (j : Int) ys.length = some j := by
      unfold seqIndex?
      simp only [if_neg (show ¬ (j : Int) < 0 by omega)]
      rw [if_pos (by simp; omega), Int.toNat_natCast]
    have pe : (ys[j] :: ys.eraseIdx j).Perm ys := perm_at ys j hj
    have le : (ys.eraseIdx j).length + 1 = ys.length := by rw [List.length_eraseIdx_of_lt hj]; omega
    have z5 : upd H4 l1 (.lst (ys.eraseIdx j)) l2 = some (.lst zs) := by rw [upd_ne (Ne.symm p12)]; exact z4
    refine ⟨l1, ys, (j : Int), j, ys[j], rfl, rfl, y4, by omega, by omega, sq, List.getElem?_eq_getElem hj, l2, zs, ys[j], rfl, rfl, z5, by rw [lz, sizeLine_eq]; omega, ?_⟩
    refine ⟨ys.eraseIdx j, zs ++ [ys[j]], _, rfl, by rw [upd_ne p12]; exact upd_same, upd_same, by omega, by rw [List.length_append, lz]; rfl, ?_, ?_, ?_⟩
    · rw [List.append_assoc]
      exact (List.Perm.append_left zs pe).trans pm
    · intro b u nb e
      rw [upd_ne (ne_of_none e f2), upd_ne (ne_of_none e n1)]
      exact s4 _ _ nb (s3 _ _ nb e)
    · obtain ⟨x0, x1, x2, h, rest⟩ := d4
      exact ⟨x0, x1, x2, by rw [upd_ne (Ne.symm p2), upd_ne (Ne.symm p1)]; exact h, rest.1, rest.2.1, rest.2.2.1, rest.2.2.2.1, by omega⟩
  · rintro _ H3 ⟨ys, zs, o, rfl, y1, z1, ly, lz, pm, s3, d3⟩
    have ye : ys = [] := List.length_eq_zero_iff.mp (by omega)
    rw [ye, List.append_nil] at pm
    exact ⟨_, rfl, q l2 H3 zs s3 d3 f2 z1 pm⟩
end
end PF

set_option Elab.async false
set_option linter.all false
set_option maxRecDepth 100000
set_option maxHeartbeats 4000000
set_option exponentiation.threshold 20000
namespace PF
open PySem PySem.Spec PyProof.Rows L2 SlX
/-- with a bottom above 0 -/
def upN (n : Nm) : Nm := if n.b < 0 then ⟨-n.t, -n.p, n.r, -n.b⟩ else n
def besN (a b : Nm) (R : Int) : Int := sgnSum ((upN a).t * (upN b).b - (upN b).t * (upN a).b) ((upN a).p * (upN b).b - (upN b).p * (upN a).b) R
def spBeside : Sp := fun vs H Q _ => ∃ x y R a b, vs = [x, y, .int R] ∧ T4 H x a ∧ T4 H y b ∧ B3 1000 a ∧ B3 1000 b ∧ Bd 10 R ∧ (∀ u v : Int, v ≠ 0 → u * u ≠ v * v * R) ∧ ∀ H', Same H H' → Q (.int (besN a b R)) H'
def spNear : Sp := fun vs H Q _ => ∃ (p : Addr) (R : Int) (c : Nat), vs = [.ref p, .int R] ∧ Dice p H c ∧ c < 2 ^ 60 ∧ 2 ≤ R ∧ R ≤ 997 ∧ ∀ v H' t b, SameB p H H' → Dice p H' (c + 2) → T4 H' v ⟨t, 0, 0, b⟩ → b ≠ 0 → Bd 700 t → Bd 700 b → Q v H'
section
variable {P : Program} {w : World} {K : PySem.W.Frag} {mg : Str → Option Value} {base : Heap} {f CN CF : Addr} {fd : FuncData}
theorem sc__law_beside : FnScope ["_law_one", "_law_other", "_law_root"] ["_law_one", "_law_other", "_law_root"] (defScope (topS 37)) := ⟨rfl, rfl, rfl, by decide +kernel, rfl, by decide +kernel, by decide +kernel⟩
theorem ok_beside (F : Fun K "_law_beside" "_law_beside" (topS 37) f fd) (fr : Free mg) (G__law_sign : GD P w K mg base "_law_sign" 2 spLSign) : FnOk P w K mg base CX0 3 f fd ["_law_one", "_law_other", "_law_root"] spBeside := by
  refine F.ok sc__law_beside (fun vs H Q E ⟨_, _, _, _, _, e, _⟩ => by rw [e]; rfl) (fun cdv A outer s H vs Q E hr h => ⟨_, (pss_cons (ps_if (pt_cmpR op_lt (pe_ix (ix_tup : IxR _ (rIxT K)) (pv 0) pe_int (fun _ _ => rfl)) pe_int (nomark _)) (pss_one (ps_set (i := 0) sc__law_beside.nd rfl (by first | exact Or.inl rfl | exact Or.inr rfl) (pe_tup (pa_cons (pe_un un_neg (pe_ix (ix_tup : IxR _ (rIxT K)) (pv 0) pe_int (fun _ _ => rfl))) (pa_cons (pe_un un_neg (pe_ix (ix_tup : IxR _ (rIxT K)) (pv 0) pe_int (fun _ _ => rfl))) (pa_cons (pe_ix (ix_tup : IxR _ (rIxT K)) (pv 0) pe_int (fun _ _ => rfl)) (pa_cons (pe_un un_neg (pe_ix (ix_tup : IxR _ (rIxT K)) (pv 0) pe_int (fun _ _ => rfl))) pa_nil))))))) pss_nil)
  (pss_cons (ps_if (pt_cmpR op_lt (pe_ix (ix_tup : IxR _ (rIxT K)) (pv 1) pe_int (fun _ _ => rfl)) pe_int (nomark _)) (pss_one (ps_set (i := 1) sc__law_beside.nd rfl (by first | exact Or.inl rfl | exact Or.inr rfl) (pe_tup (pa_cons (pe_un un_neg (pe_ix (ix_tup : IxR _ (rIxT K)) (pv 1) pe_int (fun _ _ => rfl))) (pa_cons (pe_un un_neg (pe_ix (ix_tup : IxR _ (rIxT K)) (pv 1) pe_int (fun _ _ => rfl))) (pa_cons (pe_ix (ix_tup : IxR _ (rIxT K)) (pv 1) pe_int (fun _ _ => rfl)) (pa_cons (pe_un un_neg (pe_ix (ix_tup : IxR _ (rIxT K)) (pv 1) pe_int (fun _ _ => rfl))) pa_nil))))))) pss_nil)
  (pss_one (ps_ret (pe_c1 G__law_sign (hr.mono (by decide)) (pa_cons (pe_tup (pa_cons (pe_op op_sub (pe_op op_mulX (pe_ix (ix_tup : IxR _ (rIxT K)) (pv 0) pe_int (fun _ _ => rfl)) (pe_ix (ix_tup : IxR _ (rIxT K)) (pv 1) pe_int (fun _ _ => rfl))) (pe_op op_mulX (pe_ix (ix_tup : IxR _ (rIxT K)) (pv 1) pe_int (fun _ _ => rfl)) (pe_ix (ix_tup : IxR _ (rIxT K)) (pv 0) pe_int (fun _ _ => rfl)))) (pa_cons (pe_op op_sub (pe_op op_mulX (pe_ix (ix_tup : IxR _ (rIxT K)) (pv 0) pe_int (fun _ _ => rfl)) (pe_ix (ix_tup : IxR _ (rIxT K)) (pv 1) pe_int (fun _ _ => rfl))) (pe_op op_mulX (pe_ix (ix_tup : IxR _ (rIxT K)) (pv 1) pe_int (fun _ _ => rfl)) (pe_ix (ix_tup : IxR _ (rIxT K)) (pv 0) pe_int (fun _ _ => rfl)))) pa_nil))) (pa_cons (pv 2) pa_nil))))))), ?_⟩)
  obtain ⟨x, y, R, a, b, rfl, ⟨ax, rfl, hx⟩, ⟨ay, rfl, hy⟩, ba, bb, bR, ir, q⟩ := h
  have g0 : ∀ x y z u : V, atI [x, y, z, u] 0 = some x := fun x y z u => atI_nat (j := 0) rfl
  have g1 : ∀ x y z u : V, atI [x, y, z, u] 1 = some y := fun x y z u => atI_nat (j := 1) rfl
  have g2 : ∀ x y z u : V, atI [x, y, z, u] 2 = some z := fun x y z u => atI_nat (j := 2) rfl
  have g3 : ∀ x y z u : V, atI [x, y, z, u] 3 = some u := fun x y z u => atI_nat (j := 3) rfl
  have fin : ∀ (px py : Addr) (a1 b1' : Nm) (H1 : Hp), Same H H1 → H1 px = some (.tup [.int a1.t, .int a1.p, .int a1.r, .int a1.b]) → H1 py = some (.tup [.int b1'.t, .int b1'.p, .int b1'.r, .int b1'.b]) → upN a = a1 → upN b = b1' → B3 1000 a1 → B3 1000 b1' →
      tRet (tCall spLSign [] E0 (tCons (tTup (tCons (tOp (rI0 fun i j => V.int (i - j)) (tOp (rI CMulX fun i j => V.int (i * j)) (tOp (rIxT K) (tVar 0) (tC (V.int 0))) (tOp (rIxT K) (tVar 1) (tC (V.int 3)))) (tOp (rI CMulX fun i j => V.int (i * j)) (tOp (rIxT K) (tVar 1) (tC (V.int 0))) (tOp (rIxT K) (tVar 0) (tC (V.int 3))))) (tCons (tOp (rI0 fun i j => V.int (i - j)) (tOp (rI CMulX fun i j => V.int (i * j)) (tOp (rIxT K) (tVar 0) (tC (V.int 1))) (tOp (rIxT K) (tVar 1) (tC (V.int 3)))) (tOp (rI CMulX fun i j => V.int (i * j)) (tOp (rIxT K) (tVar 1) (tC (V.int 1))) (tOp (rIxT K) (tVar 0) (tC (V.int 3))))) tNil))) (tCons (tVar 2) tNil)))
      { nx := fun x H' => Q V.non H', rt := Q } [some (.ref px), some (.ref py), some (.int R)] H1 := fun px py a1 b1' H1 s1 hx hy e1 e2 b1 b2 => by
    have q2 := q
    unfold besN at q2
    rw [e1, e2] at q2
    refine ⟨_, rfl, _, _, _, _, rfl, rfl, .of hx, g0 _ _ _ _, _, rfl, _, _, _, _, rfl, rfl, .of hy, g3 _ _ _ _, _, _, rfl, rfl, b1.1.mulx b2.2.2 (by decide), _, rfl, _, _, _, _, rfl, rfl, .of hy, g0 _ _ _ _, _, rfl, _, _, _, _, rfl, rfl, .of hx, g3 _ _ _ _, _, _, rfl, rfl, b2.1.mulx b1.2.2 (by decide), _, _, rfl, rfl, _, rfl, _, _, _, _, rfl, rfl, .of hx, g1 _ _ _ _, _, rfl, _, _, _, _, rfl, rfl, .of hy, g3 _ _ _ _, _, _, rfl, rfl, b1.2.1.mulx b2.2.2 (by decide), _, rfl, _, _, _, _, rfl, rfl, .of hy, g1 _ _ _ _, _, rfl, _, _, _, _, rfl, rfl, .of hx, g3 _ _ _ _, _, _, rfl, rfl, b2.2.1.mulx b1.2.2 (by decide), _, _, rfl, rfl, by show 2 ≤ sizeLine; decide, fun q1 n1 => ⟨_, rfl, q1, _, _, R, rfl, upd_same, (Bd.sub (n := 2000) (m := 2001) (b1.1.mul b2.2.2) (b2.1.mul b1.2.2) rfl).mono (by decide), (Bd.sub (n := 2000) (m := 2001) (b1.2.1.mul b2.2.2) (b2.2.1.mul b1.2.2) rfl).mono (by decide), bR, ir _ _, ?_⟩⟩
    exact q2 _ (s1.trans (same_upd n1))
  have up : ∀ (n : Nm), n.b < 0 → upN n = ⟨-n.t, -n.p, n.r, -n.b⟩ := fun n h => if_pos h
  have dn : ∀ (n : Nm), ¬ n.b < 0 → upN n = n := fun n h => if_neg h
  refine ⟨_, rfl, _, _, _, _, rfl, rfl, .of hx, g3 _ _ _ _, _, _, rfl, rfl, _, rfl, ite_dec (fun c => ?_) fun c => ?_⟩
  · refine ⟨_, rfl, _, _, _, _, rfl, rfl, .of hx, g0 _ _ _ _, _, rfl, _, rfl, _, _, _, _, rfl, rfl, .of hx, g1 _ _ _ _, _, rfl, _, rfl, _, _, _, _, rfl, rfl, .of hx, g2 _ _ _ _, _, rfl, _, _, _, _, rfl, rfl, .of hx, g3 _ _ _ _, _, rfl, by show 4 ≤ sizeLine; decide, fun q0 n0 => ?_⟩
    have s0 := same_upd (o := .tup [.int (-a.t), .int (-a.p), .int a.r, .int (-a.b)]) n0
    have hx0 : upd H q0 (.tup [.int (-a.t), .int (-a.p), .int a.r, .int (-a.b)]) q0 = some (.tup [.int (-a.t), .int (-a.p), .int a.r, .int (-a.b)]) := upd_same
    have hy0 := s0 _ _ hy
    have hx' := hx
    clear hx
    have hy' := hy
    clear hy
    have hy := hy0
    generalize upd H q0 (.tup [.int (-a.t), .int (-a.p), .int a.r, .int (-a.b)]) = H1 at *
    refine ⟨_, rfl, _, _, _, _, rfl, rfl, .of hy, g3 _ _ _ _, _, _, rfl, rfl, _, rfl, ite_dec (fun c2 => ?_) fun c2 => ?_⟩
    · refine ⟨_, rfl, _, _, _, _, rfl, rfl, .of hy, g0 _ _ _ _, _, rfl, _, rfl, _, _, _, _, rfl, rfl, .of hy, g1 _ _ _ _, _, rfl, _, rfl, _, _, _, _, rfl, rfl, .of hy, g2 _ _ _ _, _, rfl, _, _, _, _, rfl, rfl, .of hy, g3 _ _ _ _, _, rfl, by show 4 ≤ sizeLine; decide, fun q5 n5 => ?_⟩
      exact fin q0 q5 ⟨-a.t, -a.p, a.r, -a.b⟩ ⟨-b.t, -b.p, b.r, -b.b⟩ _ (s0.trans (same_upd n5)) (same_upd n5 _ _ hx0) upd_same (up a c) (up b c2) ⟨ba.1.neg, ba.2.1.neg, ba.2.2.neg⟩ ⟨bb.1.neg, bb.2.1.neg, bb.2.2.neg⟩
    · exact fin q0 ay ⟨-a.t, -a.p, a.r, -a.b⟩ b _ s0 hx0 hy (up a c) (dn b c2) ⟨ba.1.neg, ba.2.1.neg, ba.2.2.neg⟩ bb
  · refine ⟨_, rfl, _, _, _, _, rfl, rfl, .of hy, g3 _ _ _ _, _, _, rfl, rfl, _, rfl, ite_dec (fun c2 => ?_) fun c2 => ?_⟩
    · refine ⟨_, rfl, _, _, _, _, rfl, rfl, .of hy, g0 _ _ _ _, _, rfl, _, rfl, _, _, _, _, rfl, rfl, .of hy, g1 _ _ _ _, _, rfl, _, rfl, _, _, _, _, rfl, rfl, .of hy, g2 _ _ _ _, _, rfl, _, _, _, _, rfl, rfl, .of hy, g3 _ _ _ _, _, rfl, by show 4 ≤ sizeLine; decide, fun q5 n5 => ?_⟩
      exact fin ax q5 a ⟨-b.t, -b.p, b.r, -b.b⟩ _ (same_upd n5) (same_upd n5 _ _ hx) upd_same (dn a c) (up b c2) ba ⟨bb.1.neg, bb.2.1.neg, bb.2.2.neg⟩
    · exact fin ax ay a b _ (Same.refl H) hx hy (dn a c) (dn b c2) ba bb
theorem sc__law_near : FnScope ["_law_dice_here", "_law_root", "_law_top", "_law_bottom", "_law_side", "_law_turn"] ["_law_dice_here", "_law_root"] (defScope (topS 38)) := ⟨rfl, rfl, rfl, by decide +kernel, rfl, by decide +kernel, by decide +kernel⟩
theorem ok_near (F : Fun K "_law_near" "_law_near" (topS 38) f fd) (fr : Free mg) (G__law_roll : GD P w K mg base "_law_roll" 2 spRoll) : FnOk P w K mg base CX0 3 f fd ["_law_dice_here", "_law_root"] spNear := by
  refine F.ok sc__law_near (fun vs H Q E ⟨_, _, _, e, _⟩ => by rw [e]; rfl) (fun cdv A outer s H vs Q E hr h => ⟨_, (pss_cons (ps_par (i := 2) (j := 3) (by rfl) sc__law_near.nd rfl rfl (by decide) rfl rfl (pa_cons (pe_op op_add pe_int (pe_callB (cr_max rfl) (by rfl) fr.b_max (by decide +kernel) (pa_cons (pe_lc (own := [("_law_side", 4)]) (by rfl) sc__law_near.nd (pi_range1 (by rfl) fr.b_range (pa_cons pe_int pa_nil)) (blkOk_by (own := [("_law_side", 4)]) (N := ["_law_dice_here", "_law_root", "_law_top", "_law_bottom", "_law_side", "_law_turn"]) (sc := defScope (topS 38)) (by decide +kernel)) (fun _ _ _ _ _ => (pg_name (i := 4) sc__law_near.nd rfl (by first | exact Or.inl rfl | exact Or.inr rfl))) (fun _ _ _ _ _ => (pts_one (pt_cmpR op_lt (pe_op op_mulX (pv 4) (pv 4)) (pv 1) (nomark _)))) (fun _ _ _ _ _ => (pv 4))) pa_nil))) (pa_cons pe_int pa_nil)) (by rfl))
  (pss_cons (ps_for PassesOwn.never rfl (pi_range1 (by rfl) fr.b_range (pa_cons (pe_op op_add pe_int (pe_c1 G__law_roll (hr.mono (by decide)) (pa_cons (pv 0) (pa_cons pe_int pa_nil)))) pa_nil)) (pg_name (i := 5) sc__law_near.nd rfl (by first | exact Or.inl rfl | exact Or.inr rfl)) (pss_one (ps_par (i := 2) (j := 3) (by rfl) sc__law_near.nd rfl rfl (by decide) rfl rfl (pa_cons (pe_op op_add (pe_op op_mulX (pv 2) (pv 2)) (pe_op op_mulX (pe_op op_mulX (pv 1) (pv 3)) (pv 3))) (pa_cons (pe_op op_mulX (pe_op op_mulX pe_int (pv 2)) (pv 3)) pa_nil)) (by rfl))))
  (pss_one (ps_ret (pe_ifExp (pt_cmpR op_eq (pe_c1 G__law_roll (hr.mono (by decide)) (pa_cons (pv 0) (pa_cons pe_int pa_nil))) pe_int (nomark _)) (pe_tup (pa_cons (pv 2) (pa_cons pe_int (pa_cons pe_int (pa_cons (pv 3) pa_nil))))) (pe_tup (pa_cons (pe_op op_mulX (pv 1) (pv 3)) (pa_cons pe_int (pa_cons pe_int (pa_cons (pv 2) pa_nil)))))))))), ?_⟩)
  obtain ⟨p, R, c, rfl, hd, hc, r2, r9, q⟩ := h
  have hp : ∃ d, H p = some (.lst d) := by obtain ⟨_, _, _, h, _⟩ := hd; exact ⟨_, h⟩
  obtain ⟨ds, hp⟩ := hp
  have bR : Bd 10 R := bd_sm (by omega) (by decide)
  refine ⟨40, rfl, by decide, by decide, fun D nD => ?_⟩
  refine lc_range (lo := 0) (n := 40) (fun i H' => ∃ ks : List Int, H' D = some (.lst (ks.map V.int)) ∧ (0 < i → 0 < ks.length) ∧ (∀ k ∈ ks, 0 ≤ k ∧ k < 40) ∧ ks.length ≤ i ∧ Same H H') ⟨[], upd_same, fun h => absurd h (by decide), fun _ h => (nomatch h), Nat.le_refl 0, same_upd nD⟩ ?_ ?_
  · rintro i H' hi ⟨ks, hk, h0, hb, hl, s1⟩
    have bi : Bd 10 (0 + (i : Int)) := bd_sm (by omega) (by decide)
    refine ⟨rfl, _, rfl, _, rfl, _, _, rfl, rfl, bi.mulx bi (by decide), _, rfl, _, _, rfl, rfl, _, rfl, ite_dec (fun c => ?_) fun c => ?_⟩
    · refine ⟨_, rfl, ks.map V.int, hk, by rw [List.length_map, sizeLine_eq]; omega, ks ++ [0 + (i : Int)], by rw [upd_same, List.map_append]; rfl, fun _ => by rw [List.length_append]; exact Nat.succ_pos _, ?_, by rw [List.length_append]; exact Nat.succ_le_succ hl, ?_⟩
      · intro k hk
        rcases List.mem_append.mp hk with hk | hk
        · exact hb k hk
        · rw [List.mem_singleton.mp hk]; omega
      · intro b o e
        rw [upd_ne (ne_of_none e nD)]
        exact s1 _ _ e
    · refine ⟨ks, hk, fun _ => ?_, hb, Nat.le_succ_of_le hl, s1⟩
      by_cases i0 : i = 0
      · subst i0
        exact absurd (by show (0 + ((0 : Nat) : Int)) * (0 + ((0 : Nat) : Int)) < R; omega) c
      · exact h0 (by omega)
  rintro H1 ⟨ks, hk, h0, hb, hl, s1⟩
  refine ⟨D, ks, rfl, .of hk, h0 (by decide), fun m hm _ => ⟨_, _, rfl, rfl, _, _, rfl, ?_⟩⟩
  have m0 := hb m hm
  have d1 := hd.same s1
  refine ⟨_, rfl, p, 5, c, rfl, d1, by omega, by decide, bd_sm (by decide) (by decide), fun r H2 r0 r5 s2 d2 => ⟨_, _, rfl, rfl, _, rfl, by omega, by omega, ?_⟩⟩
  have s02 : SameB p H H2 := (Same.b s1).trans s2
  refine for_range (lo := 0) (fun i σ H' => ∃ (t b : Int) (o : Option V), σ = [some (.ref p), some (.int R), some (.int t), some (.int b), none, o] ∧ H' = H2 ∧ 0 < t ∧ 0 < b ∧ Bd (17 * 2 ^ i - 11) t ∧ Bd (17 * 2 ^ i - 11) b) ⟨1 + m, 1, none, rfl, rfl, by omega, by decide, bd_le 40 (by omega) (by decide), bd_le 1 (by decide) (by decide)⟩ ?_ ?_
  · rintro i _ _ hi ⟨t, b, o, rfl, rfl, t0, b0, bt, bb⟩
    have i4 : i ≤ 4 := by omega
    have k1 : 17 * 2 ^ i - 11 ≤ 261 := by
      have := Nat.pow_le_pow_right (show 0 < 2 by decide) i4
      omega
    have k2 : 17 * 2 ^ (i + 1) - 11 = (17 * 2 ^ i - 11) + (17 * 2 ^ i - 11) + 11 := by
      have := Nat.two_pow_pos i
      rw [Nat.pow_succ]; omega
    rw [k2]
    generalize 17 * 2 ^ i - 11 = k at *
    have two : Bd 10 2 := bd_sm (by decide) (by decide)
    refine ⟨_, rfl, _, rfl, _, _, rfl, rfl, bt.mulx bt (by omega), _, rfl, _, rfl, _, _, rfl, rfl, bR.mulx bb (by omega), _, rfl, _, _, rfl, rfl, (bR.mul bb).mulx bb (by omega), _, _, rfl, rfl, _, rfl, _, _, rfl, rfl, two.mulx bt (by omega), _, rfl, _, _, rfl, rfl, (two.mul bt).mulx bb (by omega), _, _, rfl, ?_⟩
    refine ⟨_, _, _, rfl, rfl, ?_, ?_, ?_, ?_⟩
    · have h1 := Int.mul_pos t0 t0
      have h2 := Int.mul_pos (Int.mul_pos (show 0 < R by omega) b0) b0
      omega
    · exact Int.mul_pos (Int.mul_pos (by decide) t0) b0
    · exact Bd.add (n := k + k + 10) (m := k + k + 11) ((bt.mul bt).mono (by omega)) (((bR.mul bb).mul bb).mono (by omega)) rfl
    · exact ((two.mul bt).mul bb).mono (by omega)
  rintro _ _ ⟨t, b, o, rfl, rfl, t0, b0, bt, bb⟩
  have k5 : 17 * 2 ^ (1 + r).toNat - 11 ≤ 533 := by
    have := Nat.pow_le_pow_right (show 0 < 2 by decide) (show (1 + r).toNat ≤ 5 by omega)
    omega
  have bt' := bt.mono k5
  have bb' := bb.mono k5
  refine ⟨_, rfl, p, 2, c + 1, rfl, d2, by omega, by decide, bd_sm (by decide) (by decide), fun r2 H3 _ _ s3 d3 => ⟨rfl, _, rfl, ite_dec (fun _ => ?_) fun _ => ?_⟩⟩
  · refine ⟨_, rfl, _, rfl, by show 4 ≤ sizeLine; decide, fun q1 n1 => q _ _ t b ((s02.trans s3).trans (Same.b (same_upd n1))) (d3.same (same_upd n1)) ⟨q1, rfl, upd_same⟩ (by omega) (bt'.mono (by decide)) (bb'.mono (by decide))⟩
  · refine ⟨_, rfl, _, rfl, _, _, rfl, rfl, bR.mulx bb' (by decide), _, rfl, by show 4 ≤ sizeLine; decide, fun q1 n1 => q _ _ (R * b) t ((s02.trans s3).trans (Same.b (same_upd n1))) (d3.same (same_upd n1)) ⟨q1, rfl, upd_same⟩ (by omega) ((bR.mul bb').mono (by decide)) (bt'.mono (by decide))⟩
end
end PF

set_option Elab.async false
set_option linter.all false
set_option maxRecDepth 100000
set_option maxHeartbeats 400000
namespace PF
open PySem PySem.Spec PyProof.Rows L2 SlX
/-! ### signs of sums, compared -/
theorem sgn_scale {k x : Int} (h : 0 < k) : sgn (k * x) = sgn x := by
  rcases Int.lt_trichotomy x 0 with c | c | c
  · rw [sgn_n c, sgn_n (Int.mul_neg_of_pos_of_neg h c)]
  · subst c; rw [Int.mul_zero]
  · rw [sgn_p c, sgn_p (Int.mul_pos h c)]
theorem sgnSum_root {x y r r' : Int} (h : y ≠ 0 → r = r') : sgnSum x y r = sgnSum x y r' := by
  unfold sgnSum
  by_cases c : y = 0
  · rw [if_pos c, if_pos c]
  · rw [h c]
theorem sgnSum_scale {k x y r : Int} (h : 0 < k) : sgnSum (k * x) (k * y) r = sgnSum x y r := by
  unfold sgnSum
  have e : (k * y = 0) ↔ y = 0 := by
    constructor
    · intro z
      rcases Int.mul_eq_zero.mp z with z | z
      · omega
      · exact z
    · intro z; rw [z, Int.mul_zero]
  have e2 : k * x * (k * x) - k * y * (k * y) * r = k * (k * (x * x - y * y * r)) := by grind
  rw [sgn_scale h, sgn_scale h, e2, sgn_scale h, sgn_scale h]
  by_cases c : y = 0
  · rw [if_pos c, if_pos (e.mpr c)]
  · rw [if_neg c, if_neg fun z => c (e.mp z)]
theorem sgn_eq0 {x : Int} (h : sgn x = 0) : x = 0 := by
  rcases Int.lt_trichotomy x 0 with c | c | c
  · rw [sgn_n c] at h; omega
  · exact c
  · rw [sgn_p c] at h; omega
theorem sgnSum_eq0 {x y r : Int} (ir : y ≠ 0 → x * x ≠ y * y * r) (h : sgnSum x y r = 0) : x = 0 ∧ y = 0 := by
  unfold sgnSum at h
  by_cases c : y = 0
  · rw [if_pos c] at h; exact ⟨sgn_eq0 h, c⟩
  · rw [if_neg c] at h
    by_cases d : 0 ≤ sgn x * sgn y
    · rw [if_pos d] at h; exact absurd (sgn_eq0 h) c
    · rw [if_neg d] at h
      rcases Int.mul_eq_zero.mp h with z | z
      · rw [z, Int.zero_mul] at d; exact absurd (Int.le_refl 0) d
      · have := sgn_eq0 z
        exact absurd (show x * x = y * y * r by omega) (ir c)
section
variable {R : Int} {a b : Nm}
theorem cRoot_sum (h : Okn R a) (k : Okn R b) {x : Int} : sgnSum x (a.p * b.b - b.p * a.b) (cRoot a b) = sgnSum x (a.p * b.b - b.p * a.b) R := sgnSum_root fun y0 => by
  have hp : a.p ≠ 0 ∨ b.p ≠ 0 := Classical.byContradiction fun c => by
    have c1 : a.p = 0 := Classical.byContradiction fun z => c (.inl z)
    have c2 : b.p = 0 := Classical.byContradiction fun z => c (.inr z)
    exact y0 (by rw [c1, c2]; simp)
  refine cRoot_of h.rt k.rt hp fun z => ?_
  rcases hp with hp | hp
  · exact hp (h.zero z)
  · exact hp (k.zero z)
theorem cmp_R (h : Okn R a) (k : Okn R b) : cmpN a b = sgnSum (a.t * b.b - b.t * a.b) (a.p * b.b - b.p * a.b) R := cRoot_sum h k
theorem sub_sign (h : Okn R a) (k : Okn R b) : sgnSum (subN a b).t (subN a b).p (subN a b).r = cmpN a b := by
  have s := h.sub k
  have sk := h.subk k
  have hb := h.nrm.b
  have kb := k.nrm.b
  have B0 : 0 < a.b * b.b := Int.mul_pos hb kb
  rw [cmp_R h k, ← sgnSum_scale (k := (subN a b).b) (x := a.t * b.b - b.t * a.b) s.nrm.b, ← sgnSum_scale (k := a.b * b.b) (x := (subN a b).t) B0]
  rw [show a.b * b.b * (subN a b).t = (subN a b).b * (a.t * b.b - b.t * a.b) by have := s.vt; grind]
  rw [show a.b * b.b * (subN a b).p = (subN a b).b * (a.p * b.b - b.p * a.b) by have := s.vp; grind]
  refine sgnSum_root fun y0 => s.root fun z => ?_
  have := s.vp
  rw [z, Int.zero_mul] at this
  exact y0 (by rw [Int.mul_comm, ← this])
theorem cmp_eq0 (h : Okn R a) (k : Okn R b) (hR : okR R) : cmpN a b = 0 ↔ a = b := by
  rw [cmp_R h k]
  constructor
  · intro e
    have ir : a.p * b.b - b.p * a.b ≠ 0 → (a.t * b.b - b.t * a.b) * (a.t * b.b - b.t * a.b) ≠ (a.p * b.b - b.p * a.b) * (a.p * b.b - b.p * a.b) * R := fun y0 => by
      refine irr hR (fun z => ?_) y0
      rw [h.zero z, k.zero z] at y0
      simp at y0
    obtain ⟨e1, e2⟩ := sgnSum_eq0 ir e
    refine nrm_ext h.nrm k.nrm (by omega) (by omega) fun ap => ?_
    rw [h.root ap, k.root fun z => ?_]
    rw [z, Int.zero_mul, Int.sub_zero] at e2
    rcases Int.mul_eq_zero.mp e2 with z | z
    · exact ap z
    · have := k.nrm.b; omega
  · rintro rfl
    rw [Int.sub_self, Int.sub_self]; rfl
end
/-- a row with its sign told -/
structure RowK (R : Int) (n : Nm) : Prop where
  b0 : n.b ≠ 0
  r : n.r = R ∨ n.r = 0
  z : n.r = 0 → n.p = 0
theorem RowK.okn {R : Int} {n : Nm} (h : RowK R n) : Okn R (nrmN n) := Okn.mk' h.b0 (fun p => h.r.resolve_right fun z => p (h.z z)) fun z => h.z (h.r.elim (fun e => e.trans z) id)
theorem RowK.ok {R : Int} {n : Nm} (h : RowK R n) (hR : okR R) : okRoot n.r n.p := by
  by_cases c : n.r = 0
  · exact .inl ⟨c, h.z c⟩
  · exact .inr (by rw [h.r.resolve_right c]; exact okR_root hR fun z => c (by rw [h.r.resolve_right c, z]))
theorem cmp_int (n : Nm) (i : Int) : cmpN n ⟨i, 0, 0, 1⟩ = sgnSum (n.t - i * n.b) n.p n.r := by
  unfold cmpN cRoot
  have e : (if n.r = 0 then (0 : Int) else n.r) = n.r := by split <;> omega
  dsimp only
  rw [e, Int.mul_one, Int.mul_one, Int.zero_mul, Int.sub_zero]
theorem floor_bd9 {R : Int} {n : Nm} (h : Okn R n) (hR : okR R) (b : B3 900 n) : Bd 950 (floorN n.t n.p n.r n.b) := by
  have hb := h.nrm.b
  unfold floorN
  split
  · exact (fdiv_bd b.1 hb).mono (by decide)
  · have k : ((isq (n.p * n.p * n.r).toNat : Nat) : Int).natAbs ≤ 2 ^ 906 := by
      rw [Int.natAbs_natCast]
      refine isq_bits _ (Nat.lt_of_le_of_lt ?_ (((b.2.1.mul b.2.1).mul (h.rb hR)).mono (show 900 + 900 + 10 ≤ 2 * 906 by decide)))
      omega
    generalize ((isq (n.p * n.p * n.r).toNat : Nat) : Int) = q at *
    have bq : Bd 907 q := Nat.lt_of_le_of_lt k (Nat.pow_lt_pow_right (by decide) (by decide))
    have b1 : Bd 908 (if 0 < n.p then q else -q - 1) := by
      split
      · exact bq.mono (by decide)
      · exact Bd.sub (n := 907) bq.neg (bd_sm (by decide) (by decide)) rfl
    exact (fdiv_bd (Bd.add (n := 908) (m := 909) (b.1.mono (by decide)) b1 rfl) hb).mono (by decide)
theorem up_val (n : Nm) (b0 : n.b ≠ 0) : 0 < (upN n).b ∧ (nrmN n).t * (upN n).b = (upN n).t * (nrmN n).b ∧ (nrmN n).p * (upN n).b = (upN n).p * (nrmN n).b := by
  obtain ⟨v1, v2, v3⟩ := mkNm_val n.t n.p n.r b0
  unfold upN
  split
  · refine ⟨show 0 < -n.b by omega, ?_, ?_⟩
    · show (mkNm n.t n.p n.r n.b).t * -n.b = -n.t * (mkNm n.t n.p n.r n.b).b
      rw [Int.mul_neg, v1, Int.neg_mul]
    · show (mkNm n.t n.p n.r n.b).p * -n.b = -n.p * (mkNm n.t n.p n.r n.b).b
      rw [Int.mul_neg, v2, Int.neg_mul]
  · exact ⟨by omega, v1, v2⟩
theorem bes_cmp {R : Int} {a b : Nm} (h : RowK R a) (k : RowK R b) : besN a b R = cmpN (nrmN a) (nrmN b) := by
  obtain ⟨u1, u2, u3⟩ := up_val a h.b0
  obtain ⟨w1, w2, w3⟩ := up_val b k.b0
  have ha := h.okn.nrm.b
  have hb := k.okn.nrm.b
  rw [cmp_R h.okn k.okn]
  unfold besN
  generalize upN a = A at *
  generalize upN b = B at *
  generalize nrmN a = x at *
  generalize nrmN b = y at *
  rw [← sgnSum_scale (k := x.b * y.b) (x := A.t * B.b - B.t * A.b) (Int.mul_pos ha hb), ← sgnSum_scale (k := A.b * B.b) (x := x.t * y.b - y.t * x.b) (Int.mul_pos u1 w1)]
  congr 1 <;> grind
end PF

set_option Elab.async false
set_option linter.all false
set_option maxRecDepth 100000
set_option maxHeartbeats 400000
set_option exponentiation.threshold 20000
namespace PF2
open PF PySem PySem.Spec PyProof.Rows L2 SlX
section
variable {P : Program} {w : World} {K : PySem.W.Frag} {mg : Str → Option Value} {base : Heap} {f CN CF : Addr} {fd : FuncData}
theorem sc__law_mixed : FnScope ["_law_dice_here", "_law_items", "_law_left", "_law_found", "_law_turn"] ["_law_dice_here", "_law_items"] (defScope (topS 33)) := ⟨rfl, rfl, rfl, by decide +kernel, rfl, by decide +kernel, by decide +kernel⟩
noncomputable def b__law_mixed (ρ : (Unit × ((List (Int × (Int × (Int × (Int × Unit))))) × (Unit × (Unit × (Unit × Unit)))))) : M (Ct Unit Unit (List (Int × (Int × (Int × (Int × Unit)))))) := (M.thn (M.bind (M.bind (M.bind (M.ret ρ.2.1) fun (x1 : (List (Int × (Int × (Int × (Int × Unit)))))) => M.bind (M.ret ()) fun (x2 : Unit) => M.ret (x1, x2)) fun (r3 : ((List (Int × (Int × (Int × (Int × Unit))))) × Unit)) => M.ret r3.1) fun (x4 : (List (Int × (Int × (Int × (Int × Unit)))))) => M.bind (M.bind (M.ret ()) fun _ => M.ret []) fun (x5 : (List (Int × (Int × (Int × (Int × Unit)))))) => M.ret (.nx (ρ.1, ρ.2.1, x4, x5, ρ.2.2.2.2.1, ρ.2.2.2.2.2))) fun (ρ : (Unit × ((List (Int × (Int × (Int × (Int × Unit))))) × ((List (Int × (Int × (Int × (Int × Unit))))) × ((List (Int × (Int × (Int × (Int × Unit))))) × (Unit × Unit)))))) => (M.thn (M.bind (M.bind (M.bind (M.bind (M.ret ρ.2.1) fun (x6 : (List (Int × (Int × (Int × (Int × Unit)))))) => M.bind (M.ret ()) fun (x7 : Unit) => M.ret (x6, x7)) fun (r8 : ((List (Int × (Int × (Int × (Int × Unit))))) × Unit)) => M.ret (r8.1.length : Int)) fun (x9 : Int) => M.need (-(2 ^ 62) ≤ x9 ∧ x9 < 2 ^ 62) (M.ret (rng 0 x9))) fun (l14 : List Int) => M.forM l14 (fun (a10 : Int) (ρ : (Unit × ((List (Int × (Int × (Int × (Int × Unit))))) × ((List (Int × (Int × (Int × (Int × Unit))))) × ((List (Int × (Int × (Int × (Int × Unit))))) × (Unit × Unit)))))) => (fun (ρ : (Unit × ((List (Int × (Int × (Int × (Int × Unit))))) × ((List (Int × (Int × (Int × (Int × Unit))))) × ((List (Int × (Int × (Int × (Int × Unit))))) × (Int × Unit)))))) => (M.thn (M.bind (M.bind (M.ret (ρ.2.2.1.length : Int)) fun (x11 : Int) => M.roll x11) fun (x13 : Int) => M.need (ρ.2.2.1.length ≤ 2 ^ 62 ∧ 0 ≤ x13) (M.bind (M.the ρ.2.2.1[Int.toNat x13]?) fun (a12 : (Int × (Int × (Int × (Int × Unit))))) => M.need (ρ.2.2.2.1.length < sizeLine) (M.ret (.nx (ρ.1, ρ.2.1, ρ.2.2.1.eraseIdx (Int.toNat x13), ρ.2.2.2.1 ++ [a12], ρ.2.2.2.2.1, ρ.2.2.2.2.2))))) fun (ρ : (Unit × ((List (Int × (Int × (Int × (Int × Unit))))) × ((List (Int × (Int × (Int × (Int × Unit))))) × ((List (Int × (Int × (Int × (Int × Unit))))) × (Int × Unit)))))) => M.ret (.nx (ρ.1, ρ.2.1, ρ.2.2.1, ρ.2.2.2.1, (), ρ.2.2.2.2.2)))) (ρ.1, ρ.2.1, ρ.2.2.1, ρ.2.2.2.1, a10, ρ.2.2.2.2.2)) ρ) fun (ρ : (Unit × ((List (Int × (Int × (Int × (Int × Unit))))) × ((List (Int × (Int × (Int × (Int × Unit))))) × ((List (Int × (Int × (Int × (Int × Unit))))) × (Unit × Unit)))))) => (M.bind (M.ret ρ.2.2.2.1) fun (x15 : (List (Int × (Int × (Int × (Int × Unit)))))) => M.ret (.rt x15))))
noncomputable def m__law_mixed (a : ((List (Int × (Int × (Int × (Int × Unit))))) × Unit)) : M (List (Int × (Int × (Int × (Int × Unit))))) := M.fin (b__law_mixed ((), (a.1, ((), ((), ((), ()))))))
theorem ok__law_mixed (F : Fun K "_law_mixed" "_law_mixed" (topS 33) f fd) (fr : Free mg) (G__law_roll : GD P w K mg base "_law_roll" 2 spRoll) : FnOk P w K mg base CX0 3 f fd ["_law_dice_here", "_law_items"] (spOfD (aCons (rLs (rTx K (aCons rInt (aCons rInt (aCons rInt (aCons rInt aNil)))))) aNil) (rLs (rTx K (aCons rInt (aCons rInt (aCons rInt (aCons rInt aNil)))))) m__law_mixed) := by
  refine F.ok sc__law_mixed (fun vs H Q E h => spOfD_len h) (fun cdv A outer s H vs Q E hr h => ⟨_, (pss_cons (ps_par (i := 2) (j := 3) (by rfl) sc__law_mixed.nd rfl rfl (by decide) rfl rfl (pa_cons (pe_callTy call_list_of (by rfl) fr.b_list (by decide +kernel) (pa_cons (pv 1) pa_nil)) (pa_cons (pe_lst pa_nil) pa_nil)) (by rfl))
  (pss_cons (ps_for PassesOwn.never rfl (pi_range1 (by rfl) fr.b_range (pa_cons (pe_callB call_len (by rfl) fr.b_len (by decide +kernel) (pa_cons (pv 1) pa_nil)) pa_nil)) (pg_name (i := 4) sc__law_mixed.nd rfl (by first | exact Or.inl rfl | exact Or.inr rfl)) (pss_one (ps_expr (pe_bm PySem.F.plainAttrs_list PySem.F.slot_list_append PySem.F.type_list_append mt_append (pv 3) (pa_cons (pe_bm PySem.F.plainAttrs_list PySem.F.slot_list_pop PySem.F.type_list_pop mt_popAt (pv 2) (pa_cons (pe_c1 G__law_roll (hr.mono (by decide)) (pa_cons (pv 0) (pa_cons (pe_callB call_len (by rfl) fr.b_len (by decide +kernel) (pa_cons (pv 2) pa_nil)) pa_nil))) pa_nil)) pa_nil)))))
  (pss_one (ps_ret (pv 3))))), ?_⟩)
  refine fn_bodyD (X := E) (S := (aCons (rLs (rTx K (aCons rInt (aCons rInt (aCons rInt (aCons rInt aNil)))))) aNil)) (E' := eNil) (R := (rLs (rTx K (aCons rInt (aCons rInt (aCons rInt (aCons rInt aNil))))))) (st_dice (st_par (st_un (st_un (st_un st_nil))))) rfl (s_seq (s_parV (sv_n (n_ca c_listL (a_cons (e_var (getS get0)) a_nil))) (sv_n (n_lst (Ra := (rTx K (aCons rInt (aCons rInt (aCons rInt (aCons rInt aNil)))))) hom_nil a_nil (le_n 0))) (putS (putS put0)) (putS (putS (putS put0))))
  (s_seq (s_for (i_rng1 (e_ca (c_len len_ls) (a_cons (e_var (getS get0)) a_nil))) (g_name (putS (putS (putS (putS put0))))) (s_post (s_appendPop (modS (modS (modS mod0))) (modS (modS mod0)) (fun _ _ => rfl) (e_roll get0 (e_lenO (modS (modS mod0))))) (wk_fg (fg_keep (fg_keep (fg_keep (fg_keep (fg_un fg_nil))))))))
  (s_pre (wk_fz (fzS (fzS (fzS fz0)))) (s_ret (e_var (getS (getS (getS get0)))))))) ?_
  exact h
theorem sc__law_sign : FnScope ["_law_pair", "_law_root", "_law_x", "_law_y", "_law_both", "_law_greater"] ["_law_pair", "_law_root"] (defScope (topS 34)) := ⟨rfl, rfl, rfl, by decide +kernel, rfl, by decide +kernel, by decide +kernel⟩
noncomputable def b__law_sign (ρ : ((Int × (Int × Unit)) × (Int × (Unit × (Unit × (Unit × (Unit × Unit))))))) : M (Ct Unit Unit Int) := (M.thn (M.bind (M.ret ρ.1) fun (x16 : (Int × (Int × Unit))) => M.ret (.nx (ρ.1, ρ.2.1, x16.1, x16.2.1, ρ.2.2.2.2.1, ρ.2.2.2.2.2.1, ρ.2.2.2.2.2.2))) fun (ρ : ((Int × (Int × Unit)) × (Int × (Int × (Int × (Unit × (Unit × Unit))))))) => (M.thn (M.bind (M.bind (M.bind (M.ret ρ.2.2.2.1) fun (x17 : Int) => M.bind (M.ret (0 : Int)) fun (x18 : Int) => M.ret (decide (x17 = x18))) fun (x28 : Bool) => M.ifb x28 (M.ret true) (M.bind (M.bind (M.ret ρ.2.2.1) fun (x19 : Int) => M.bind (M.ret (0 : Int)) fun (x20 : Int) => M.ret (decide (x19 = x20))) fun (x27 : Bool) => M.ifb x27 (M.ret true) (M.bind (M.bind (M.ret ρ.2.2.1) fun (x21 : Int) => M.bind (M.ret (0 : Int)) fun (x22 : Int) => M.ret (decide (x22 < x21))) fun (x25 : Bool) => M.bind (M.bind (M.ret ρ.2.2.2.1) fun (x23 : Int) => M.bind (M.ret (0 : Int)) fun (x24 : Int) => M.ret (decide (x24 < x23))) fun (x26 : Bool) => M.ret (decide (x25 = x26))))) fun (x46 : Bool) => M.ifb x46 (M.thn (M.bind (M.bind (M.bind (M.ret ρ.2.2.1) fun (x29 : Int) => M.bind (M.ret (0 : Int)) fun (x30 : Int) => M.ret (!decide (x29 = x30))) fun (x31 : Bool) => M.ifb x31 (M.ret ρ.2.2.1) (M.ret ρ.2.2.2.1)) fun (x32 : Int) => M.ret (.nx (ρ.1, ρ.2.1, ρ.2.2.1, ρ.2.2.2.1, x32, ρ.2.2.2.2.2))) fun (ρ : ((Int × (Int × Unit)) × (Int × (Int × (Int × (Int × (Unit × Unit))))))) => (M.bind (M.bind (M.bind (M.bind (M.bind (M.ret ρ.2.2.2.2.1) fun (x33 : Int) => M.bind (M.ret (0 : Int)) fun (x34 : Int) => M.ret (decide (x34 < x33))) fun (x35 : Bool) => M.bind (M.ret ()) fun (x36 : Unit) => M.ret (x35, x36)) fun (r37 : (Bool × Unit)) => M.ret (if r37.1 = true then 1 else 0)) fun (x43 : Int) => M.bind (M.bind (M.bind (M.bind (M.ret ρ.2.2.2.2.1) fun (x38 : Int) => M.bind (M.ret (0 : Int)) fun (x39 : Int) => M.ret (decide (x38 < x39))) fun (x40 : Bool) => M.bind (M.ret ()) fun (x41 : Unit) => M.ret (x40, x41)) fun (r42 : (Bool × Unit)) => M.ret (if r42.1 = true then 1 else 0)) fun (x44 : Int) => M.ret (x43 - x44)) fun (x45 : Int) => M.ret (.rt x45))) (M.ret (.nx ρ))) fun (ρ : ((Int × (Int × Unit)) × (Int × (Int × (Int × (Unit × (Unit × Unit))))))) => (M.thn (M.bind (M.bind (M.bind (M.bind (M.ret ρ.2.2.1) fun (x47 : Int) => M.bind (M.ret ρ.2.2.1) fun (x48 : Int) => M.need (CMulX x47 x48) (M.ret (x47 * x48))) fun (x53 : Int) => M.bind (M.bind (M.bind (M.ret ρ.2.2.2.1) fun (x49 : Int) => M.bind (M.ret ρ.2.2.2.1) fun (x50 : Int) => M.need (CMulX x49 x50) (M.ret (x49 * x50))) fun (x51 : Int) => M.bind (M.ret ρ.2.1) fun (x52 : Int) => M.need (CMulX x51 x52) (M.ret (x51 * x52))) fun (x54 : Int) => M.ret (decide (x54 < x53))) fun (x55 : Bool) => M.ifb x55 (M.ret ρ.2.2.1) (M.ret ρ.2.2.2.1)) fun (x56 : Int) => M.ret (.nx (ρ.1, ρ.2.1, ρ.2.2.1, ρ.2.2.2.1, ρ.2.2.2.2.1, x56, ρ.2.2.2.2.2.2))) fun (ρ : ((Int × (Int × Unit)) × (Int × (Int × (Int × (Unit × (Int × Unit))))))) => (M.bind (M.bind (M.bind (M.ret ρ.2.2.2.2.2.1) fun (x57 : Int) => M.bind (M.ret (0 : Int)) fun (x58 : Int) => M.ret (decide (x58 < x57))) fun (x60 : Bool) => M.ifb x60 (M.ret (1 : Int)) (M.bind (M.ret (1 : Int)) fun (x59 : Int) => M.ret (-x59))) fun (x61 : Int) => M.ret (.rt x61)))))
noncomputable def m__law_sign (a : ((Int × (Int × Unit)) × (Int × Unit))) : M Int := M.fin (b__law_sign (a.1, (a.2.1, ((), ((), ((), ((), ())))))))
theorem ok__law_sign (F : Fun K "_law_sign" "_law_sign" (topS 34) f fd) (fr : Free mg) : FnOk P w K mg base CX0 2 f fd ["_law_pair", "_law_root"] (spOf (aCons (rTx K (aCons rInt (aCons rInt aNil))) (aCons rInt aNil)) rInt m__law_sign) := by
  refine F.ok sc__law_sign (fun vs H Q E h => spOf_len h) (fun cdv A outer s H vs Q E hr h => ⟨_, (pss_cons (ps_asg (pv 0) (pg_tup (by rfl) (pgs_cons (pg_name (i := 2) sc__law_sign.nd rfl (by first | exact Or.inl rfl | exact Or.inr rfl)) (pgs_cons (pg_name (i := 3) sc__law_sign.nd rfl (by first | exact Or.inl rfl | exact Or.inr rfl)) pgs_nil))))
  (pss_cons (ps_if (PW.pt (pw_or (pt_cmpR op_eq (pv 3) pe_int (nomark _)) (pw_or (pt_cmpR op_eq (pv 2) pe_int (nomark _)) (pw_or1 (pt_cmpR op_eq (pe_cmpR op_gt (pv 2) pe_int (nomark _)) (pe_cmpR op_gt (pv 3) pe_int (nomark _)) (nomark _)))))) (pss_cons (ps_set (i := 4) sc__law_sign.nd rfl (by first | exact Or.inl rfl | exact Or.inr rfl) (pe_ifExp (pt_cmpR op_ne (pv 2) pe_int (nomark _)) (pv 2) (pv 3)))
  (pss_one (ps_ret (pe_op op_sub (pe_callTy call_int1 (by rfl) fr.b_int (by decide +kernel) (pa_cons (pe_cmpR op_gt (pv 4) pe_int (nomark _)) pa_nil)) (pe_callTy call_int1 (by rfl) fr.b_int (by decide +kernel) (pa_cons (pe_cmpR op_lt (pv 4) pe_int (nomark _)) pa_nil)))))) pss_nil)
  (pss_cons (ps_set (i := 5) sc__law_sign.nd rfl (by first | exact Or.inl rfl | exact Or.inr rfl) (pe_ifExp (pt_cmpR op_gt (pe_op op_mulX (pv 2) (pv 2)) (pe_op op_mulX (pe_op op_mulX (pv 3) (pv 3)) (pv 1)) (nomark _)) (pv 2) (pv 3)))
  (pss_one (ps_ret (pe_ifExp (pt_cmpR op_gt (pv 5) pe_int (nomark _)) pe_int (pe_un un_neg pe_int))))))), ?_⟩)
  refine fn_body (X := E) (S := (aCons (rTx K (aCons rInt (aCons rInt aNil))) (aCons rInt aNil))) (E' := eNil) (R := rInt) (st_par (st_par (st_un (st_un (st_un (st_un st_nil)))))) rfl (s_seq (s_asg (e_var get0) (g_tup (gs_cons (g_name (putS (putS put0))) (gs_cons (g_name (putS (putS (putS put0)))) gs_nil)) rfl))
  (s_seq (s_if (t_or (t_of (e_op (o_eq sc_int) (e_var (getS (getS (getS get0)))) e_int)) (t_or (t_of (e_op (o_eq sc_int) (e_var (getS (getS get0))) e_int)) (t_of (e_op (o_eq sc_bl) (e_op (o_ib fun _ _ => rfl) (e_var (getS (getS get0))) e_int) (e_op (o_ib fun _ _ => rfl) (e_var (getS (getS (getS get0)))) e_int))))) (s_seq (s_asg (e_if (t_of (e_op (o_ne sc_int) (e_var (getS (getS get0))) e_int)) (e_var (getS (getS get0))) (e_var (getS (getS (getS get0))))) (g_name (putS (putS (putS (putS put0))))))
  (s_ret (e_op (o_ii fun _ _ => rfl) (e_ca c_intB (a_cons (e_op (o_ib fun _ _ => rfl) (e_var (getS (getS (getS (getS get0))))) e_int) a_nil)) (e_ca c_intB (a_cons (e_op (o_ib fun _ _ => rfl) (e_var (getS (getS (getS (getS get0))))) e_int) a_nil))))) s_nil)
  (s_seq (s_asg (e_if (t_of (e_op (o_ib fun _ _ => rfl) (e_op (o_iiC fun _ _ => rfl) (e_var (getS (getS get0))) (e_var (getS (getS get0)))) (e_op (o_iiC fun _ _ => rfl) (e_op (o_iiC fun _ _ => rfl) (e_var (getS (getS (getS get0)))) (e_var (getS (getS (getS get0))))) (e_var (getS get0))))) (e_var (getS (getS get0))) (e_var (getS (getS (getS get0))))) (g_name (putS (putS (putS (putS (putS put0)))))))
  (s_ret (e_if (t_of (e_op (o_ib fun _ _ => rfl) (e_var (getS (getS (getS (getS (getS get0)))))) e_int)) e_int (e_un (u_ii fun _ => rfl) e_int)))))) ?_
  exact h
theorem sc__law_parts_drawn : FnScope ["_law_dice_here", "_law_root", "_law_near_here", "_law_top", "_law_part"] ["_law_dice_here", "_law_root"] (defScope (topS 35)) := ⟨rfl, rfl, rfl, by decide +kernel, rfl, by decide +kernel, by decide +kernel⟩
noncomputable def b__law_parts_drawn (ρ : (Unit × (Int × (Unit × (Unit × (Unit × Unit)))))) : M (Ct Unit Unit (Int × (Int × (Int × (Int × Unit))))) := (M.thn (M.bind (M.bind (M.bind (M.bind (M.ret (10 : Int)) fun (x74 : Int) => M.bind (M.bind (M.ret (10 : Int)) fun (x72 : Int) => M.bind (M.bind (M.ret (10 : Int)) fun (x70 : Int) => M.bind (M.bind (M.bind (M.ret (10 : Int)) fun (x62 : Int) => M.bind (M.ret (6 : Int)) fun (x63 : Int) => M.need (CPow x62 x63) (M.ret (x62 ^ Int.toNat x63))) fun (x68 : Int) => M.bind (M.bind (M.bind (M.ret (10 : Int)) fun (x64 : Int) => M.bind (M.ret (30 : Int)) fun (x65 : Int) => M.need (CPow x64 x65) (M.ret (x64 ^ Int.toNat x65))) fun (x66 : Int) => M.bind (M.ret ()) fun (x67 : Unit) => M.ret (x66, x67)) fun (x69 : (Int × Unit)) => M.ret (x68, x69)) fun (x71 : (Int × (Int × Unit))) => M.ret (x70, x71)) fun (x73 : (Int × (Int × (Int × Unit)))) => M.ret (x72, x73)) fun (x75 : (Int × (Int × (Int × (Int × Unit))))) => M.ret (x74, x75)) fun (r76 : (Int × (Int × (Int × (Int × (Int × Unit)))))) => M.ret [r76.1, r76.2.1, r76.2.2.1, r76.2.2.2.1, r76.2.2.2.2.1]) fun (x77 : (List Int)) => M.pick x77) fun (x78 : Int) => M.ret (.nx (ρ.1, ρ.2.1, x78, ρ.2.2.2))) fun (ρ : (Unit × (Int × (Int × (Unit × (Unit × Unit)))))) => (M.thn (M.bind (M.bind (M.bind (M.bind (M.bind (M.ret (2 : Int)) fun (x79 : Int) => M.bind (M.ret ρ.2.2.1) fun (x80 : Int) => M.need (CMulX x79 x80) (M.ret (x79 * x80))) fun (x81 : Int) => M.bind (M.ret (1 : Int)) fun (x82 : Int) => M.ret (x81 + x82)) fun (x83 : Int) => M.roll x83) fun (x84 : Int) => M.bind (M.ret ρ.2.2.1) fun (x85 : Int) => M.ret (x84 - x85)) fun (x86 : Int) => M.ret (.nx (ρ.1, ρ.2.1, ρ.2.2.1, x86, ρ.2.2.2.2))) fun (ρ : (Unit × (Int × (Int × (Int × (Unit × Unit)))))) => (M.thn (M.bind (M.bind (M.bind (M.ret ρ.2.1) fun (x87 : Int) => M.bind (M.ret (0 : Int)) fun (x88 : Int) => M.ret (decide (x87 = x88))) fun (x96 : Bool) => M.ifb x96 (M.ret (0 : Int)) (M.bind (M.bind (M.bind (M.bind (M.ret (2 : Int)) fun (x89 : Int) => M.bind (M.ret ρ.2.2.1) fun (x90 : Int) => M.need (CMulX x89 x90) (M.ret (x89 * x90))) fun (x91 : Int) => M.bind (M.ret (1 : Int)) fun (x92 : Int) => M.ret (x91 + x92)) fun (x93 : Int) => M.roll x93) fun (x94 : Int) => M.bind (M.ret ρ.2.2.1) fun (x95 : Int) => M.ret (x94 - x95))) fun (x97 : Int) => M.ret (.nx (ρ.1, ρ.2.1, ρ.2.2.1, ρ.2.2.2.1, x97, ρ.2.2.2.2.2))) fun (ρ : (Unit × (Int × (Int × (Int × (Int × Unit)))))) => (M.bind (M.bind (M.ret ρ.2.2.2.1) fun (x129 : Int) => M.bind (M.bind (M.ret ρ.2.2.2.2.1) fun (x127 : Int) => M.bind (M.bind (M.ret ρ.2.1) fun (x125 : Int) => M.bind (M.bind (M.bind (M.bind (M.bind (M.ret (1 : Int)) fun (x119 : Int) => M.bind (M.bind (M.ret (1 : Int)) fun (x117 : Int) => M.bind (M.bind (M.ret (2 : Int)) fun (x115 : Int) => M.bind (M.bind (M.ret (3 : Int)) fun (x113 : Int) => M.bind (M.bind (M.bind (M.ret (4 : Int)) fun (x98 : Int) => M.ret (-x98)) fun (x111 : Int) => M.bind (M.bind (M.ret (6 : Int)) fun (x109 : Int) => M.bind (M.bind (M.bind (M.ret (1 : Int)) fun (x99 : Int) => M.ret (-x99)) fun (x107 : Int) => M.bind (M.bind (M.ret (12 : Int)) fun (x105 : Int) => M.bind (M.bind (M.bind (M.ret (1 : Int)) fun (x101 : Int) => M.bind (M.bind (M.ret ρ.2.2.1) fun (x100 : Int) => M.roll x100) fun (x102 : Int) => M.ret (x101 + x102)) fun (x103 : Int) => M.bind (M.ret ()) fun (x104 : Unit) => M.ret (x103, x104)) fun (x106 : (Int × Unit)) => M.ret (x105, x106)) fun (x108 : (Int × (Int × Unit))) => M.ret (x107, x108)) fun (x110 : (Int × (Int × (Int × Unit)))) => M.ret (x109, x110)) fun (x112 : (Int × (Int × (Int × (Int × Unit))))) => M.ret (x111, x112)) fun (x114 : (Int × (Int × (Int × (Int × (Int × Unit)))))) => M.ret (x113, x114)) fun (x116 : (Int × (Int × (Int × (Int × (Int × (Int × Unit))))))) => M.ret (x115, x116)) fun (x118 : (Int × (Int × (Int × (Int × (Int × (Int × (Int × Unit)))))))) => M.ret (x117, x118)) fun (x120 : (Int × (Int × (Int × (Int × (Int × (Int × (Int × (Int × Unit))))))))) => M.ret (x119, x120)) fun (r121 : (Int × (Int × (Int × (Int × (Int × (Int × (Int × (Int × (Int × Unit)))))))))) => M.ret [r121.1, r121.2.1, r121.2.2.1, r121.2.2.2.1, r121.2.2.2.2.1, r121.2.2.2.2.2.1, r121.2.2.2.2.2.2.1, r121.2.2.2.2.2.2.2.1, r121.2.2.2.2.2.2.2.2.1]) fun (x122 : (List Int)) => M.pick x122) fun (x123 : Int) => M.bind (M.ret ()) fun (x124 : Unit) => M.ret (x123, x124)) fun (x126 : (Int × Unit)) => M.ret (x125, x126)) fun (x128 : (Int × (Int × Unit))) => M.ret (x127, x128)) fun (x130 : (Int × (Int × (Int × Unit)))) => M.ret (x129, x130)) fun (x131 : (Int × (Int × (Int × (Int × Unit))))) => M.ret (.rt x131)))))
noncomputable def m__law_parts_drawn (a : (Int × Unit)) : M (Int × (Int × (Int × (Int × Unit)))) := M.fin (b__law_parts_drawn ((), (a.1, ((), ((), ((), ()))))))
theorem ok__law_parts_drawn (F : Fun K "_law_parts_drawn" "_law_parts_drawn" (topS 35) f fd) (G__law_pick : GD P w K mg base "_law_pick" 3 spPick) (G__law_roll : GD P w K mg base "_law_roll" 2 spRoll) : FnOk P w K mg base CX0 4 f fd ["_law_dice_here", "_law_root"] (spOfD (aCons rInt aNil) (rTx K (aCons rInt (aCons rInt (aCons rInt (aCons rInt aNil))))) m__law_parts_drawn) := by
  refine F.ok sc__law_parts_drawn (fun vs H Q E h => spOfD_len h) (fun cdv A outer s H vs Q E hr h => ⟨_, (pss_cons (ps_set (i := 2) sc__law_parts_drawn.nd rfl (by first | exact Or.inl rfl | exact Or.inr rfl) (pe_c1 G__law_pick (hr.mono (by decide)) (pa_cons (pv 0) (pa_cons (pe_lst (pa_cons pe_int (pa_cons pe_int (pa_cons pe_int (pa_cons (pe_op op_pow pe_int pe_int) (pa_cons (pe_op op_pow pe_int pe_int) pa_nil)))))) pa_nil))))
  (pss_cons (ps_set (i := 3) sc__law_parts_drawn.nd rfl (by first | exact Or.inl rfl | exact Or.inr rfl) (pe_op op_sub (pe_c1 G__law_roll (hr.mono (by decide)) (pa_cons (pv 0) (pa_cons (pe_op op_add (pe_op op_mulX pe_int (pv 2)) pe_int) pa_nil))) (pv 2)))
  (pss_cons (ps_set (i := 4) sc__law_parts_drawn.nd rfl (by first | exact Or.inl rfl | exact Or.inr rfl) (pe_ifExp (pt_cmpR op_eq (pv 1) pe_int (nomark _)) pe_int (pe_op op_sub (pe_c1 G__law_roll (hr.mono (by decide)) (pa_cons (pv 0) (pa_cons (pe_op op_add (pe_op op_mulX pe_int (pv 2)) pe_int) pa_nil))) (pv 2))))
  (pss_one (ps_ret (pe_tup (pa_cons (pv 3) (pa_cons (pv 4) (pa_cons (pv 1) (pa_cons (pe_c1 G__law_pick (hr.mono (by decide)) (pa_cons (pv 0) (pa_cons (pe_lst (pa_cons pe_int (pa_cons pe_int (pa_cons pe_int (pa_cons pe_int (pa_cons (pe_un un_neg pe_int) (pa_cons pe_int (pa_cons (pe_un un_neg pe_int) (pa_cons pe_int (pa_cons (pe_op op_add pe_int (pe_c1 G__law_roll (hr.mono (by decide)) (pa_cons (pv 0) (pa_cons (pv 2) pa_nil)))) pa_nil)))))))))) pa_nil))) pa_nil)))))))))), ?_⟩)
  refine fn_bodyD (X := E) (S := (aCons rInt aNil)) (E' := eNil) (R := (rTx K (aCons rInt (aCons rInt (aCons rInt (aCons rInt aNil)))))) (st_dice (st_par (st_un (st_un (st_un st_nil))))) rfl (s_seq (s_asg (e_pick get0 (SN.se (n_lst (hom_cons (hom_cons (hom_cons (hom_cons (hom_cons hom_nil))))) (a_cons e_int (a_cons e_int (a_cons e_int (a_cons (e_op (o_iiC fun _ _ => rfl) e_int e_int) (a_cons (e_op (o_iiC fun _ _ => rfl) e_int e_int) a_nil))))) (le_n 5)))) (g_name (putS (putS put0))))
  (s_seq (s_asg (e_op (o_ii fun _ _ => rfl) (e_roll get0 (e_op (o_ii fun _ _ => rfl) (e_op (o_iiC fun _ _ => rfl) e_int (e_var (getS (getS get0)))) e_int)) (e_var (getS (getS get0)))) (g_name (putS (putS (putS put0)))))
  (s_seq (s_asg (e_if (t_of (e_op (o_eq sc_int) (e_var (getS get0)) e_int)) e_int (e_op (o_ii fun _ _ => rfl) (e_roll get0 (e_op (o_ii fun _ _ => rfl) (e_op (o_iiC fun _ _ => rfl) e_int (e_var (getS (getS get0)))) e_int)) (e_var (getS (getS get0))))) (g_name (putS (putS (putS (putS put0))))))
  (s_ret (e_tup (a_cons (e_var (getS (getS (getS get0)))) (a_cons (e_var (getS (getS (getS (getS get0))))) (a_cons (e_var (getS get0)) (a_cons (e_pick get0 (SN.se (n_lst (hom_cons (hom_cons (hom_cons (hom_cons (hom_cons (hom_cons (hom_cons (hom_cons (hom_cons hom_nil))))))))) (a_cons e_int (a_cons e_int (a_cons e_int (a_cons e_int (a_cons (e_un (u_ii fun _ => rfl) e_int) (a_cons e_int (a_cons (e_un (u_ii fun _ => rfl) e_int) (a_cons e_int (a_cons (e_op (o_ii fun _ _ => rfl) e_int (e_roll get0 (e_var (getS (getS get0))))) a_nil))))))))) (le_n 9)))) a_nil)))) (le_n 4)))))) ?_
  exact h
theorem sc__law_beside : FnScope ["_law_one", "_law_other", "_law_root"] ["_law_one", "_law_other", "_law_root"] (defScope (topS 37)) := ⟨rfl, rfl, rfl, by decide +kernel, rfl, by decide +kernel, by decide +kernel⟩
noncomputable def b__law_beside (ρ : ((Int × (Int × (Int × (Int × Unit)))) × ((Int × (Int × (Int × (Int × Unit)))) × (Int × Unit)))) : M (Ct Unit Unit Int) := (M.thn (M.bind (M.bind (M.bind (M.ret ρ.1) fun (x132 : (Int × (Int × (Int × (Int × Unit))))) => M.ret x132.2.2.2.1) fun (x133 : Int) => M.bind (M.ret (0 : Int)) fun (x134 : Int) => M.ret (decide (x133 < x134))) fun (x151 : Bool) => M.ifb x151 (M.bind (M.bind (M.bind (M.bind (M.ret ρ.1) fun (x135 : (Int × (Int × (Int × (Int × Unit))))) => M.ret x135.1) fun (x136 : Int) => M.ret (-x136)) fun (x148 : Int) => M.bind (M.bind (M.bind (M.bind (M.ret ρ.1) fun (x137 : (Int × (Int × (Int × (Int × Unit))))) => M.ret x137.2.1) fun (x138 : Int) => M.ret (-x138)) fun (x146 : Int) => M.bind (M.bind (M.bind (M.ret ρ.1) fun (x139 : (Int × (Int × (Int × (Int × Unit))))) => M.ret x139.2.2.1) fun (x144 : Int) => M.bind (M.bind (M.bind (M.bind (M.ret ρ.1) fun (x140 : (Int × (Int × (Int × (Int × Unit))))) => M.ret x140.2.2.2.1) fun (x141 : Int) => M.ret (-x141)) fun (x142 : Int) => M.bind (M.ret ()) fun (x143 : Unit) => M.ret (x142, x143)) fun (x145 : (Int × Unit)) => M.ret (x144, x145)) fun (x147 : (Int × (Int × Unit))) => M.ret (x146, x147)) fun (x149 : (Int × (Int × (Int × Unit)))) => M.ret (x148, x149)) fun (x150 : (Int × (Int × (Int × (Int × Unit))))) => M.ret (.nx (x150, ρ.2))) (M.ret (.nx ρ))) fun (ρ : ((Int × (Int × (Int × (Int × Unit)))) × ((Int × (Int × (Int × (Int × Unit)))) × (Int × Unit)))) => (M.thn (M.bind (M.bind (M.bind (M.ret ρ.2.1) fun (x152 : (Int × (Int × (Int × (Int × Unit))))) => M.ret x152.2.2.2.1) fun (x153 : Int) => M.bind (M.ret (0 : Int)) fun (x154 : Int) => M.ret (decide (x153 < x154))) fun (x171 : Bool) => M.ifb x171 (M.bind (M.bind (M.bind (M.bind (M.ret ρ.2.1) fun (x155 : (Int × (Int × (Int × (Int × Unit))))) => M.ret x155.1) fun (x156 : Int) => M.ret (-x156)) fun (x168 : Int) => M.bind (M.bind (M.bind (M.bind (M.ret ρ.2.1) fun (x157 : (Int × (Int × (Int × (Int × Unit))))) => M.ret x157.2.1) fun (x158 : Int) => M.ret (-x158)) fun (x166 : Int) => M.bind (M.bind (M.bind (M.ret ρ.2.1) fun (x159 : (Int × (Int × (Int × (Int × Unit))))) => M.ret x159.2.2.1) fun (x164 : Int) => M.bind (M.bind (M.bind (M.bind (M.ret ρ.2.1) fun (x160 : (Int × (Int × (Int × (Int × Unit))))) => M.ret x160.2.2.2.1) fun (x161 : Int) => M.ret (-x161)) fun (x162 : Int) => M.bind (M.ret ()) fun (x163 : Unit) => M.ret (x162, x163)) fun (x165 : (Int × Unit)) => M.ret (x164, x165)) fun (x167 : (Int × (Int × Unit))) => M.ret (x166, x167)) fun (x169 : (Int × (Int × (Int × Unit)))) => M.ret (x168, x169)) fun (x170 : (Int × (Int × (Int × (Int × Unit))))) => M.ret (.nx (ρ.1, x170, ρ.2.2))) (M.ret (.nx ρ))) fun (ρ : ((Int × (Int × (Int × (Int × Unit)))) × ((Int × (Int × (Int × (Int × Unit)))) × (Int × Unit)))) => (M.bind (M.bind (M.bind (M.bind (M.bind (M.bind (M.bind (M.ret ρ.1) fun (x172 : (Int × (Int × (Int × (Int × Unit))))) => M.ret x172.1) fun (x174 : Int) => M.bind (M.bind (M.ret ρ.2.1) fun (x173 : (Int × (Int × (Int × (Int × Unit))))) => M.ret x173.2.2.2.1) fun (x175 : Int) => M.need (CMulX x174 x175) (M.ret (x174 * x175))) fun (x180 : Int) => M.bind (M.bind (M.bind (M.ret ρ.2.1) fun (x176 : (Int × (Int × (Int × (Int × Unit))))) => M.ret x176.1) fun (x178 : Int) => M.bind (M.bind (M.ret ρ.1) fun (x177 : (Int × (Int × (Int × (Int × Unit))))) => M.ret x177.2.2.2.1) fun (x179 : Int) => M.need (CMulX x178 x179) (M.ret (x178 * x179))) fun (x181 : Int) => M.ret (x180 - x181)) fun (x194 : Int) => M.bind (M.bind (M.bind (M.bind (M.bind (M.ret ρ.1) fun (x182 : (Int × (Int × (Int × (Int × Unit))))) => M.ret x182.2.1) fun (x184 : Int) => M.bind (M.bind (M.ret ρ.2.1) fun (x183 : (Int × (Int × (Int × (Int × Unit))))) => M.ret x183.2.2.2.1) fun (x185 : Int) => M.need (CMulX x184 x185) (M.ret (x184 * x185))) fun (x190 : Int) => M.bind (M.bind (M.bind (M.ret ρ.2.1) fun (x186 : (Int × (Int × (Int × (Int × Unit))))) => M.ret x186.2.1) fun (x188 : Int) => M.bind (M.bind (M.ret ρ.1) fun (x187 : (Int × (Int × (Int × (Int × Unit))))) => M.ret x187.2.2.2.1) fun (x189 : Int) => M.need (CMulX x188 x189) (M.ret (x188 * x189))) fun (x191 : Int) => M.ret (x190 - x191)) fun (x192 : Int) => M.bind (M.ret ()) fun (x193 : Unit) => M.ret (x192, x193)) fun (x195 : (Int × Unit)) => M.ret (x194, x195)) fun (x198 : (Int × (Int × Unit))) => M.bind (M.bind (M.ret ρ.2.2.1) fun (x196 : Int) => M.bind (M.ret ()) fun (x197 : Unit) => M.ret (x196, x197)) fun (x199 : (Int × Unit)) => M.ret (x198, x199)) fun (r200 : ((Int × (Int × Unit)) × (Int × Unit))) => M.still (m__law_sign r200)) fun (x201 : Int) => M.ret (.rt x201))))
noncomputable def m__law_beside (a : ((Int × (Int × (Int × (Int × Unit)))) × ((Int × (Int × (Int × (Int × Unit)))) × (Int × Unit)))) : M Int := M.fin (b__law_beside (a.1, (a.2.1, (a.2.2.1, ()))))
theorem ok__law_beside (F : Fun K "_law_beside" "_law_beside" (topS 37) f fd) (G__law_sign : GD P w K mg base "_law_sign" 2 (spOf (aCons (rTx K (aCons rInt (aCons rInt aNil))) (aCons rInt aNil)) rInt m__law_sign)) : FnOk P w K mg base CX0 3 f fd ["_law_one", "_law_other", "_law_root"] (spOf (aCons (rTx K (aCons rInt (aCons rInt (aCons rInt (aCons rInt aNil))))) (aCons (rTx K (aCons rInt (aCons rInt (aCons rInt (aCons rInt aNil))))) (aCons rInt aNil))) rInt m__law_beside) := by
  refine F.ok sc__law_beside (fun vs H Q E h => spOf_len h) (fun cdv A outer s H vs Q E hr h => ⟨_, (pss_cons (ps_if (pt_cmpR op_lt (pe_ix (ix_tup : IxR _ (rIxT K)) (pv 0) pe_int (fun _ _ => rfl)) pe_int (nomark _)) (pss_one (ps_set (i := 0) sc__law_beside.nd rfl (by first | exact Or.inl rfl | exact Or.inr rfl) (pe_tup (pa_cons (pe_un un_neg (pe_ix (ix_tup : IxR _ (rIxT K)) (pv 0) pe_int (fun _ _ => rfl))) (pa_cons (pe_un un_neg (pe_ix (ix_tup : IxR _ (rIxT K)) (pv 0) pe_int (fun _ _ => rfl))) (pa_cons (pe_ix (ix_tup : IxR _ (rIxT K)) (pv 0) pe_int (fun _ _ => rfl)) (pa_cons (pe_un un_neg (pe_ix (ix_tup : IxR _ (rIxT K)) (pv 0) pe_int (fun _ _ => rfl))) pa_nil))))))) pss_nil)
  (pss_cons (ps_if (pt_cmpR op_lt (pe_ix (ix_tup : IxR _ (rIxT K)) (pv 1) pe_int (fun _ _ => rfl)) pe_int (nomark _)) (pss_one (ps_set (i := 1) sc__law_beside.nd rfl (by first | exact Or.inl rfl | exact Or.inr rfl) (pe_tup (pa_cons (pe_un un_neg (pe_ix (ix_tup : IxR _ (rIxT K)) (pv 1) pe_int (fun _ _ => rfl))) (pa_cons (pe_un un_neg (pe_ix (ix_tup : IxR _ (rIxT K)) (pv 1) pe_int (fun _ _ => rfl))) (pa_cons (pe_ix (ix_tup : IxR _ (rIxT K)) (pv 1) pe_int (fun _ _ => rfl)) (pa_cons (pe_un un_neg (pe_ix (ix_tup : IxR _ (rIxT K)) (pv 1) pe_int (fun _ _ => rfl))) pa_nil))))))) pss_nil)
  (pss_one (ps_ret (pe_c1 G__law_sign (hr.mono (by decide)) (pa_cons (pe_tup (pa_cons (pe_op op_sub (pe_op op_mulX (pe_ix (ix_tup : IxR _ (rIxT K)) (pv 0) pe_int (fun _ _ => rfl)) (pe_ix (ix_tup : IxR _ (rIxT K)) (pv 1) pe_int (fun _ _ => rfl))) (pe_op op_mulX (pe_ix (ix_tup : IxR _ (rIxT K)) (pv 1) pe_int (fun _ _ => rfl)) (pe_ix (ix_tup : IxR _ (rIxT K)) (pv 0) pe_int (fun _ _ => rfl)))) (pa_cons (pe_op op_sub (pe_op op_mulX (pe_ix (ix_tup : IxR _ (rIxT K)) (pv 0) pe_int (fun _ _ => rfl)) (pe_ix (ix_tup : IxR _ (rIxT K)) (pv 1) pe_int (fun _ _ => rfl))) (pe_op op_mulX (pe_ix (ix_tup : IxR _ (rIxT K)) (pv 1) pe_int (fun _ _ => rfl)) (pe_ix (ix_tup : IxR _ (rIxT K)) (pv 0) pe_int (fun _ _ => rfl)))) pa_nil))) (pa_cons (pv 2) pa_nil))))))), ?_⟩)
  refine fn_body (X := E) (S := (aCons (rTx K (aCons rInt (aCons rInt (aCons rInt (aCons rInt aNil))))) (aCons (rTx K (aCons rInt (aCons rInt (aCons rInt (aCons rInt aNil))))) (aCons rInt aNil)))) (E' := eNil) (R := rInt) (st_par (st_par (st_par st_nil))) rfl (s_seq (s_if (t_of (e_op (o_ib fun _ _ => rfl) (e_ixX (i := 3) (rgetS (rgetS (rgetS rget0))) (e_var get0)) e_int)) (s_asg (e_tup (a_cons (e_un (u_ii fun _ => rfl) (e_ixX (i := 0) rget0 (e_var get0))) (a_cons (e_un (u_ii fun _ => rfl) (e_ixX (i := 1) (rgetS rget0) (e_var get0))) (a_cons (e_ixX (i := 2) (rgetS (rgetS rget0)) (e_var get0)) (a_cons (e_un (u_ii fun _ => rfl) (e_ixX (i := 3) (rgetS (rgetS (rgetS rget0))) (e_var get0))) a_nil)))) (le_n 4)) (g_name put0)) s_nil)
  (s_seq (s_if (t_of (e_op (o_ib fun _ _ => rfl) (e_ixX (i := 3) (rgetS (rgetS (rgetS rget0))) (e_var (getS get0))) e_int)) (s_asg (e_tup (a_cons (e_un (u_ii fun _ => rfl) (e_ixX (i := 0) rget0 (e_var (getS get0)))) (a_cons (e_un (u_ii fun _ => rfl) (e_ixX (i := 1) (rgetS rget0) (e_var (getS get0)))) (a_cons (e_ixX (i := 2) (rgetS (rgetS rget0)) (e_var (getS get0))) (a_cons (e_un (u_ii fun _ => rfl) (e_ixX (i := 3) (rgetS (rgetS (rgetS rget0))) (e_var (getS get0)))) a_nil)))) (le_n 4)) (g_name (putS put0))) s_nil)
  (s_ret (e_call (a_cons (e_tup (a_cons (e_op (o_ii fun _ _ => rfl) (e_op (o_iiC fun _ _ => rfl) (e_ixX (i := 0) rget0 (e_var get0)) (e_ixX (i := 3) (rgetS (rgetS (rgetS rget0))) (e_var (getS get0)))) (e_op (o_iiC fun _ _ => rfl) (e_ixX (i := 0) rget0 (e_var (getS get0))) (e_ixX (i := 3) (rgetS (rgetS (rgetS rget0))) (e_var get0)))) (a_cons (e_op (o_ii fun _ _ => rfl) (e_op (o_iiC fun _ _ => rfl) (e_ixX (i := 1) (rgetS rget0) (e_var get0)) (e_ixX (i := 3) (rgetS (rgetS (rgetS rget0))) (e_var (getS get0)))) (e_op (o_iiC fun _ _ => rfl) (e_ixX (i := 1) (rgetS rget0) (e_var (getS get0))) (e_ixX (i := 3) (rgetS (rgetS (rgetS rget0))) (e_var get0)))) a_nil)) (le_n 2)) (a_cons (e_var (getS (getS get0))) a_nil)))))) ?_
  exact h
theorem sc__law_near : FnScope ["_law_dice_here", "_law_root", "_law_top", "_law_bottom", "_law_side", "_law_turn"] ["_law_dice_here", "_law_root"] (defScope (topS 38)) := ⟨rfl, rfl, rfl, by decide +kernel, rfl, by decide +kernel, by decide +kernel⟩
noncomputable def b__law_near (ρ : (Unit × (Int × (Unit × (Unit × (Unit × (Unit × Unit))))))) : M (Ct Unit Unit (Int × (Int × (Int × (Int × Unit))))) := (M.thn (M.bind (M.bind (M.ret (1 : Int)) fun (x214 : Int) => M.bind (M.bind (M.bind (M.bind (M.bind (M.ret (40 : Int)) fun (x202 : Int) => M.need (-(2 ^ 62) ≤ x202 ∧ x202 < 2 ^ 62) (M.ret (rng 0 x202))) fun (l207 : List Int) => M.need (l207.length ≤ 1000000) (M.lcM l207 fun (a208 : Int) => M.bind ((fun (ρ : (Unit × (Int × (Unit × (Unit × (Int × (Unit × Unit))))))) => (M.bind (M.bind (M.ret ρ.2.2.2.2.1) fun (x203 : Int) => M.bind (M.ret ρ.2.2.2.2.1) fun (x204 : Int) => M.need (CMulX x203 x204) (M.ret (x203 * x204))) fun (x205 : Int) => M.bind (M.ret ρ.2.1) fun (x206 : Int) => M.ret (decide (x205 < x206)))) (ρ.1, ρ.2.1, ρ.2.2.1, ρ.2.2.2.1, a208, ρ.2.2.2.2.2)) fun (b209 : Bool) => M.ifb b209 (M.bind ((fun (ρ : (Unit × (Int × (Unit × (Unit × (Int × (Unit × Unit))))))) => (M.ret ρ.2.2.2.2.1)) (ρ.1, ρ.2.1, ρ.2.2.1, ρ.2.2.2.1, a208, ρ.2.2.2.2.2)) fun (y210 : Int) => M.ret (some y210)) (M.ret none))) fun (x211 : (List Int)) => M.bind (M.ret ()) fun (x212 : Unit) => M.ret (x211, x212)) fun (r213 : ((List Int) × Unit)) => M.need (0 < r213.1.length) (M.anyOf fun m => m ∈ r213.1 ∧ ∀ y ∈ r213.1, y ≤ m)) fun (x215 : Int) => M.ret (x214 + x215)) fun (x216 : Int) => M.bind (M.ret (1 : Int)) fun (x217 : Int) => M.ret (.nx (ρ.1, ρ.2.1, x216, x217, ρ.2.2.2.2.1, ρ.2.2.2.2.2.1, ρ.2.2.2.2.2.2))) fun (ρ : (Unit × (Int × (Int × (Int × (Unit × (Unit × Unit))))))) => (M.thn (M.bind (M.bind (M.bind (M.ret (1 : Int)) fun (x219 : Int) => M.bind (M.bind (M.ret (5 : Int)) fun (x218 : Int) => M.roll x218) fun (x220 : Int) => M.ret (x219 + x220)) fun (x221 : Int) => M.need (-(2 ^ 62) ≤ x221 ∧ x221 < 2 ^ 62) (M.ret (rng 0 x221))) fun (l237 : List Int) => M.forM l237 (fun (a222 : Int) (ρ : (Unit × (Int × (Int × (Int × (Unit × (Unit × Unit))))))) => (fun (ρ : (Unit × (Int × (Int × (Int × (Unit × (Int × Unit))))))) => (M.thn (M.bind (M.bind (M.bind (M.ret ρ.2.2.1) fun (x223 : Int) => M.bind (M.ret ρ.2.2.1) fun (x224 : Int) => M.need (CMulX x223 x224) (M.ret (x223 * x224))) fun (x229 : Int) => M.bind (M.bind (M.bind (M.ret ρ.2.1) fun (x225 : Int) => M.bind (M.ret ρ.2.2.2.1) fun (x226 : Int) => M.need (CMulX x225 x226) (M.ret (x225 * x226))) fun (x227 : Int) => M.bind (M.ret ρ.2.2.2.1) fun (x228 : Int) => M.need (CMulX x227 x228) (M.ret (x227 * x228))) fun (x230 : Int) => M.ret (x229 + x230)) fun (x235 : Int) => M.bind (M.bind (M.bind (M.ret (2 : Int)) fun (x231 : Int) => M.bind (M.ret ρ.2.2.1) fun (x232 : Int) => M.need (CMulX x231 x232) (M.ret (x231 * x232))) fun (x233 : Int) => M.bind (M.ret ρ.2.2.2.1) fun (x234 : Int) => M.need (CMulX x233 x234) (M.ret (x233 * x234))) fun (x236 : Int) => M.ret (.nx (ρ.1, ρ.2.1, x235, x236, ρ.2.2.2.2.1, ρ.2.2.2.2.2.1, ρ.2.2.2.2.2.2))) fun (ρ : (Unit × (Int × (Int × (Int × (Unit × (Int × Unit))))))) => M.ret (.nx (ρ.1, ρ.2.1, ρ.2.2.1, ρ.2.2.2.1, ρ.2.2.2.2.1, (), ρ.2.2.2.2.2.2)))) (ρ.1, ρ.2.1, ρ.2.2.1, ρ.2.2.2.1, ρ.2.2.2.2.1, a222, ρ.2.2.2.2.2.2)) ρ) fun (ρ : (Unit × (Int × (Int × (Int × (Unit × (Unit × Unit))))))) => (M.bind (M.bind (M.bind (M.bind (M.ret (2 : Int)) fun (x238 : Int) => M.roll x238) fun (x239 : Int) => M.bind (M.ret (0 : Int)) fun (x240 : Int) => M.ret (decide (x239 = x240))) fun (x259 : Bool) => M.ifb x259 (M.bind (M.ret ρ.2.2.1) fun (x247 : Int) => M.bind (M.bind (M.ret (0 : Int)) fun (x245 : Int) => M.bind (M.bind (M.ret (0 : Int)) fun (x243 : Int) => M.bind (M.bind (M.ret ρ.2.2.2.1) fun (x241 : Int) => M.bind (M.ret ()) fun (x242 : Unit) => M.ret (x241, x242)) fun (x244 : (Int × Unit)) => M.ret (x243, x244)) fun (x246 : (Int × (Int × Unit))) => M.ret (x245, x246)) fun (x248 : (Int × (Int × (Int × Unit)))) => M.ret (x247, x248)) (M.bind (M.bind (M.ret ρ.2.1) fun (x249 : Int) => M.bind (M.ret ρ.2.2.2.1) fun (x250 : Int) => M.need (CMulX x249 x250) (M.ret (x249 * x250))) fun (x257 : Int) => M.bind (M.bind (M.ret (0 : Int)) fun (x255 : Int) => M.bind (M.bind (M.ret (0 : Int)) fun (x253 : Int) => M.bind (M.bind (M.ret ρ.2.2.1) fun (x251 : Int) => M.bind (M.ret ()) fun (x252 : Unit) => M.ret (x251, x252)) fun (x254 : (Int × Unit)) => M.ret (x253, x254)) fun (x256 : (Int × (Int × Unit))) => M.ret (x255, x256)) fun (x258 : (Int × (Int × (Int × Unit)))) => M.ret (x257, x258))) fun (x260 : (Int × (Int × (Int × (Int × Unit))))) => M.ret (.rt x260))))
noncomputable def m__law_near (a : (Int × Unit)) : M (Int × (Int × (Int × (Int × Unit)))) := M.fin (b__law_near ((), (a.1, ((), ((), ((), ((), ())))))))
theorem ok__law_near (F : Fun K "_law_near" "_law_near" (topS 38) f fd) (fr : Free mg) (G__law_roll : GD P w K mg base "_law_roll" 2 spRoll) : FnOk P w K mg base CX0 3 f fd ["_law_dice_here", "_law_root"] (spOfD (aCons rInt aNil) (rTx K (aCons rInt (aCons rInt (aCons rInt (aCons rInt aNil))))) m__law_near) := by
  refine F.ok sc__law_near (fun vs H Q E h => spOfD_len h) (fun cdv A outer s H vs Q E hr h => ⟨_, (pss_cons (ps_par (i := 2) (j := 3) (by rfl) sc__law_near.nd rfl rfl (by decide) rfl rfl (pa_cons (pe_op op_add pe_int (pe_callB (cr_max rfl) (by rfl) fr.b_max (by decide +kernel) (pa_cons (pe_lc (own := [("_law_side", 4)]) (by rfl) sc__law_near.nd  (pi_range1 (by rfl) fr.b_range (pa_cons pe_int pa_nil)) (blkOk_by (own := [("_law_side", 4)]) (N := ["_law_dice_here", "_law_root", "_law_top", "_law_bottom", "_law_side", "_law_turn"]) (sc := defScope (topS 38)) (by decide +kernel)) (fun _ _ _ _ _ => (pg_name (i := 4) sc__law_near.nd rfl (by first | exact Or.inl rfl | exact Or.inr rfl))) (fun _ _ _ _ _ => (pts_one (pt_cmpR op_lt (pe_op op_mulX (pv 4) (pv 4)) (pv 1) (nomark _)))) (fun _ _ _ _ _ => (pv 4))) pa_nil))) (pa_cons pe_int pa_nil)) (by rfl))
  (pss_cons (ps_for PassesOwn.never rfl (pi_range1 (by rfl) fr.b_range (pa_cons (pe_op op_add pe_int (pe_c1 G__law_roll (hr.mono (by decide)) (pa_cons (pv 0) (pa_cons pe_int pa_nil)))) pa_nil)) (pg_name (i := 5) sc__law_near.nd rfl (by first | exact Or.inl rfl | exact Or.inr rfl)) (pss_one (ps_par (i := 2) (j := 3) (by rfl) sc__law_near.nd rfl rfl (by decide) rfl rfl (pa_cons (pe_op op_add (pe_op op_mulX (pv 2) (pv 2)) (pe_op op_mulX (pe_op op_mulX (pv 1) (pv 3)) (pv 3))) (pa_cons (pe_op op_mulX (pe_op op_mulX pe_int (pv 2)) (pv 3)) pa_nil)) (by rfl))))
  (pss_one (ps_ret (pe_ifExp (pt_cmpR op_eq (pe_c1 G__law_roll (hr.mono (by decide)) (pa_cons (pv 0) (pa_cons pe_int pa_nil))) pe_int (nomark _)) (pe_tup (pa_cons (pv 2) (pa_cons pe_int (pa_cons pe_int (pa_cons (pv 3) pa_nil))))) (pe_tup (pa_cons (pe_op op_mulX (pv 1) (pv 3)) (pa_cons pe_int (pa_cons pe_int (pa_cons (pv 2) pa_nil)))))))))), ?_⟩)
  refine fn_bodyD (X := E) (S := (aCons rInt aNil)) (E' := eNil) (R := (rTx K (aCons rInt (aCons rInt (aCons rInt (aCons rInt aNil)))))) (st_dice (st_par (st_un (st_un (st_un (st_un st_nil)))))) rfl (s_seq (s_parV (sv_e (e_op (o_ii fun _ _ => rfl) e_int (e_ca c_max1 (a_cons (SN.se (n_lc (i_rng1 e_int) (gw_name (putS (putS (putS (putS put0))))) (t_of (e_op (o_ib fun _ _ => rfl) (e_op (o_iiC fun _ _ => rfl) (e_var (getS (getS (getS (getS get0))))) (e_var (getS (getS (getS (getS get0)))))) (e_var (getS get0)))) (e_var (getS (getS (getS (getS get0))))))) a_nil)))) (sv_e e_int) (putS (putS put0)) (putS (putS (putS put0))))
  (s_seq (s_for (i_rng1 (e_op (o_ii fun _ _ => rfl) e_int (e_roll get0 e_int))) (g_name (putS (putS (putS (putS (putS put0)))))) (s_post (s_parV (sv_e (e_op (o_ii fun _ _ => rfl) (e_op (o_iiC fun _ _ => rfl) (e_var (getS (getS get0))) (e_var (getS (getS get0)))) (e_op (o_iiC fun _ _ => rfl) (e_op (o_iiC fun _ _ => rfl) (e_var (getS get0)) (e_var (getS (getS (getS get0))))) (e_var (getS (getS (getS get0))))))) (sv_e (e_op (o_iiC fun _ _ => rfl) (e_op (o_iiC fun _ _ => rfl) e_int (e_var (getS (getS get0)))) (e_var (getS (getS (getS get0)))))) (putS (putS put0)) (putS (putS (putS put0)))) (wk_fg (fg_keep (fg_keep (fg_keep (fg_keep (fg_keep (fg_un fg_nil)))))))))
  (s_ret (e_if (t_of (e_op (o_eq sc_int) (e_roll get0 e_int) e_int)) (e_tup (a_cons (e_var (getS (getS get0))) (a_cons e_int (a_cons e_int (a_cons (e_var (getS (getS (getS get0)))) a_nil)))) (le_n 4)) (e_tup (a_cons (e_op (o_iiC fun _ _ => rfl) (e_var (getS get0)) (e_var (getS (getS (getS get0))))) (a_cons e_int (a_cons e_int (a_cons (e_var (getS (getS get0))) a_nil)))) (le_n 4)))))) ?_
  exact h
theorem sc__law_row : FnScope ["_law_dice_here", "_law_root", "_law_rows", "_law_turn", "_law_top", "_law_part", "_law_side", "_law_bottom", "_law_factor"] ["_law_dice_here", "_law_root"] (defScope (topS 39)) := ⟨rfl, rfl, rfl, by decide +kernel, rfl, by decide +kernel, by decide +kernel⟩
noncomputable def b__law_row (ρ : (Unit × (Int × (Unit × (Unit × (Unit × (Unit × (Unit × (Unit × (Unit × Unit)))))))))) : M (Ct Unit Unit (List (Int × (Int × (Int × (Int × Unit)))))) := (M.thn (M.bind (M.bind (M.bind (M.bind (M.ret (0 : Int)) fun (x267 : Int) => M.bind (M.bind (M.ret (1 : Int)) fun (x265 : Int) => M.bind (M.bind (M.ret ρ.2.1) fun (x263 : Int) => M.bind (M.bind (M.ret (1 : Int)) fun (x261 : Int) => M.bind (M.ret ()) fun (x262 : Unit) => M.ret (x261, x262)) fun (x264 : (Int × Unit)) => M.ret (x263, x264)) fun (x266 : (Int × (Int × Unit))) => M.ret (x265, x266)) fun (x268 : (Int × (Int × (Int × Unit)))) => M.ret (x267, x268)) fun (x279 : (Int × (Int × (Int × (Int × Unit))))) => M.bind (M.bind (M.bind (M.bind (M.ret ρ.2.1) fun (x269 : Int) => M.bind (M.ret ()) fun (x270 : Unit) => M.ret (x269, x270)) fun (r271 : (Int × Unit)) => m__law_near r271) fun (x277 : (Int × (Int × (Int × (Int × Unit))))) => M.bind (M.bind (M.bind (M.bind (M.ret ρ.2.1) fun (x272 : Int) => M.bind (M.ret ()) fun (x273 : Unit) => M.ret (x272, x273)) fun (r274 : (Int × Unit)) => m__law_near r274) fun (x275 : (Int × (Int × (Int × (Int × Unit))))) => M.bind (M.ret ()) fun (x276 : Unit) => M.ret (x275, x276)) fun (x278 : ((Int × (Int × (Int × (Int × Unit)))) × Unit)) => M.ret (x277, x278)) fun (x280 : ((Int × (Int × (Int × (Int × Unit)))) × ((Int × (Int × (Int × (Int × Unit)))) × Unit))) => M.ret (x279, x280)) fun (r281 : ((Int × (Int × (Int × (Int × Unit)))) × ((Int × (Int × (Int × (Int × Unit)))) × ((Int × (Int × (Int × (Int × Unit)))) × Unit)))) => M.ret [r281.1, r281.2.1, r281.2.2.1]) fun (x282 : (List (Int × (Int × (Int × (Int × Unit)))))) => M.ret (.nx (ρ.1, ρ.2.1, x282, ρ.2.2.2))) fun (ρ : (Unit × (Int × ((List (Int × (Int × (Int × (Int × Unit))))) × (Unit × (Unit × (Unit × (Unit × (Unit × (Unit × Unit)))))))))) => (M.thn (M.bind (M.bind (M.ret ρ.2.2.1) fun (x299 : (List (Int × (Int × (Int × (Int × Unit)))))) => M.bind (M.bind (M.bind (M.ret (3 : Int)) fun (x283 : Int) => M.need (-(2 ^ 62) ≤ x283 ∧ x283 < 2 ^ 62) (M.ret (rng 0 x283))) fun (l295 : List Int) => M.need (l295.length ≤ 1000000) (M.lcM l295 fun (a296 : Int) => M.bind ((fun (ρ : (Unit × (Int × ((List (Int × (Int × (Int × (Int × Unit))))) × (Int × (Unit × (Unit × (Unit × (Unit × (Unit × Unit)))))))))) => (M.ret true)) (ρ.1, ρ.2.1, ρ.2.2.1, a296, ρ.2.2.2.2)) fun (b297 : Bool) => M.ifb b297 (M.bind ((fun (ρ : (Unit × (Int × ((List (Int × (Int × (Int × (Int × Unit))))) × (Int × (Unit × (Unit × (Unit × (Unit × (Unit × Unit)))))))))) => (M.bind (M.bind (M.bind (M.bind (M.bind (M.ret ρ.2.1) fun (x288 : Int) => M.bind (M.bind (M.ret ρ.2.1) fun (x286 : Int) => M.bind (M.bind (M.ret (0 : Int)) fun (x284 : Int) => M.bind (M.ret ()) fun (x285 : Unit) => M.ret (x284, x285)) fun (x287 : (Int × Unit)) => M.ret (x286, x287)) fun (x289 : (Int × (Int × Unit))) => M.ret (x288, x289)) fun (r290 : (Int × (Int × (Int × Unit)))) => M.ret [r290.1, r290.2.1, r290.2.2.1]) fun (x291 : (List Int)) => M.pick x291) fun (x292 : Int) => M.bind (M.ret ()) fun (x293 : Unit) => M.ret (x292, x293)) fun (r294 : (Int × Unit)) => m__law_parts_drawn r294)) (ρ.1, ρ.2.1, ρ.2.2.1, a296, ρ.2.2.2.2)) fun (y298 : (Int × (Int × (Int × (Int × Unit))))) => M.ret (some y298)) (M.ret none))) fun (x300 : (List (Int × (Int × (Int × (Int × Unit)))))) => M.need (x299.length + x300.length ≤ sizeLine) (M.ret (x299 ++ x300))) fun (x301 : (List (Int × (Int × (Int × (Int × Unit)))))) => M.ret (.nx (ρ.1, ρ.2.1, x301, ρ.2.2.2))) fun (ρ : (Unit × (Int × ((List (Int × (Int × (Int × (Int × Unit))))) × (Unit × (Unit × (Unit × (Unit × (Unit × (Unit × Unit)))))))))) => (M.thn (M.bind (M.bind (M.ret ρ.2.2.1) fun (x303 : (List (Int × (Int × (Int × (Int × Unit)))))) => M.bind (M.bind (M.ret (6 : Int)) fun (x302 : Int) => M.roll x302) fun (x304 : Int) => M.the (atI x303 x304)) fun (x305 : (Int × (Int × (Int × (Int × Unit))))) => M.ret (.nx (ρ.1, ρ.2.1, ρ.2.2.1, ρ.2.2.2.1, x305.1, x305.2.1, x305.2.2.1, x305.2.2.2.1, ρ.2.2.2.2.2.2.2.2.1, ρ.2.2.2.2.2.2.2.2.2))) fun (ρ : (Unit × (Int × ((List (Int × (Int × (Int × (Int × Unit))))) × (Unit × (Int × (Int × (Int × (Int × (Unit × Unit)))))))))) => (M.thn (M.bind (M.bind (M.bind (M.bind (M.ret (2 : Int)) fun (x313 : Int) => M.bind (M.bind (M.bind (M.ret (3 : Int)) fun (x306 : Int) => M.ret (-x306)) fun (x311 : Int) => M.bind (M.bind (M.bind (M.ret (10 : Int)) fun (x307 : Int) => M.bind (M.ret (20 : Int)) fun (x308 : Int) => M.need (CPow x307 x308) (M.ret (x307 ^ Int.toNat x308))) fun (x309 : Int) => M.bind (M.ret ()) fun (x310 : Unit) => M.ret (x309, x310)) fun (x312 : (Int × Unit)) => M.ret (x311, x312)) fun (x314 : (Int × (Int × Unit))) => M.ret (x313, x314)) fun (r315 : (Int × (Int × (Int × Unit)))) => M.ret [r315.1, r315.2.1, r315.2.2.1]) fun (x316 : (List Int)) => M.pick x316) fun (x317 : Int) => M.ret (.nx (ρ.1, ρ.2.1, ρ.2.2.1, ρ.2.2.2.1, ρ.2.2.2.2.1, ρ.2.2.2.2.2.1, ρ.2.2.2.2.2.2.1, ρ.2.2.2.2.2.2.2.1, x317, ρ.2.2.2.2.2.2.2.2.2))) fun (ρ : (Unit × (Int × ((List (Int × (Int × (Int × (Int × Unit))))) × (Unit × (Int × (Int × (Int × (Int × (Int × Unit)))))))))) => (M.bind (M.bind (M.bind (M.bind (M.ret ρ.2.2.1) fun (x335 : (List (Int × (Int × (Int × (Int × Unit)))))) => M.bind (M.bind (M.bind (M.bind (M.bind (M.ret ρ.2.2.2.2.1) fun (x318 : Int) => M.bind (M.ret ρ.2.2.2.2.2.2.2.2.1) fun (x319 : Int) => M.need (CMulX x318 x319) (M.ret (x318 * x319))) fun (x330 : Int) => M.bind (M.bind (M.bind (M.ret ρ.2.2.2.2.2.1) fun (x320 : Int) => M.bind (M.ret ρ.2.2.2.2.2.2.2.2.1) fun (x321 : Int) => M.need (CMulX x320 x321) (M.ret (x320 * x321))) fun (x328 : Int) => M.bind (M.bind (M.ret ρ.2.2.2.2.2.2.1) fun (x326 : Int) => M.bind (M.bind (M.bind (M.ret ρ.2.2.2.2.2.2.2.1) fun (x322 : Int) => M.bind (M.ret ρ.2.2.2.2.2.2.2.2.1) fun (x323 : Int) => M.need (CMulX x322 x323) (M.ret (x322 * x323))) fun (x324 : Int) => M.bind (M.ret ()) fun (x325 : Unit) => M.ret (x324, x325)) fun (x327 : (Int × Unit)) => M.ret (x326, x327)) fun (x329 : (Int × (Int × Unit))) => M.ret (x328, x329)) fun (x331 : (Int × (Int × (Int × Unit)))) => M.ret (x330, x331)) fun (x332 : (Int × (Int × (Int × (Int × Unit))))) => M.bind (M.ret ()) fun (x333 : Unit) => M.ret (x332, x333)) fun (r334 : ((Int × (Int × (Int × (Int × Unit)))) × Unit)) => M.ret [r334.1]) fun (x336 : (List (Int × (Int × (Int × (Int × Unit)))))) => M.need (x335.length + x336.length ≤ sizeLine) (M.ret (x335 ++ x336))) fun (x337 : (List (Int × (Int × (Int × (Int × Unit)))))) => M.bind (M.ret ()) fun (x338 : Unit) => M.ret (x337, x338)) fun (r339 : ((List (Int × (Int × (Int × (Int × Unit))))) × Unit)) => m__law_mixed r339) fun (x340 : (List (Int × (Int × (Int × (Int × Unit)))))) => M.ret (.rt x340))))))
noncomputable def m__law_row (a : (Int × Unit)) : M (List (Int × (Int × (Int × (Int × Unit))))) := M.fin (b__law_row ((), (a.1, ((), ((), ((), ((), ((), ((), ((), ()))))))))))
theorem ok__law_row (F : Fun K "_law_row" "_law_row" (topS 39) f fd) (G__law_near : GD P w K mg base "_law_near" 3 (spOfD (aCons rInt aNil) (rTx K (aCons rInt (aCons rInt (aCons rInt (aCons rInt aNil))))) m__law_near)) (fr : Free mg) (G__law_pick : GD P w K mg base "_law_pick" 3 spPick) (G__law_parts_drawn : GD P w K mg base "_law_parts_drawn" 4 (spOfD (aCons rInt aNil) (rTx K (aCons rInt (aCons rInt (aCons rInt (aCons rInt aNil))))) m__law_parts_drawn)) (G__law_roll : GD P w K mg base "_law_roll" 2 spRoll) (G__law_mixed : GD P w K mg base "_law_mixed" 3 (spOfD (aCons (rLs (rTx K (aCons rInt (aCons rInt (aCons rInt (aCons rInt aNil)))))) aNil) (rLs (rTx K (aCons rInt (aCons rInt (aCons rInt (aCons rInt aNil)))))) m__law_mixed)) : FnOk P w K mg base CX0 5 f fd ["_law_dice_here", "_law_root"] (spOfD (aCons rInt aNil) (rLs (rTx K (aCons rInt (aCons rInt (aCons rInt (aCons rInt aNil)))))) m__law_row) := by
  refine F.ok sc__law_row (fun vs H Q E h => spOfD_len h) (fun cdv A outer s H vs Q E hr h => ⟨_, (pss_cons (ps_set (i := 2) sc__law_row.nd rfl (by first | exact Or.inl rfl | exact Or.inr rfl) (pe_lst (pa_cons (pe_tup (pa_cons pe_int (pa_cons pe_int (pa_cons (pv 1) (pa_cons pe_int pa_nil))))) (pa_cons (pe_c1 G__law_near (hr.mono (by decide)) (pa_cons (pv 0) (pa_cons (pv 1) pa_nil))) (pa_cons (pe_c1 G__law_near (hr.mono (by decide)) (pa_cons (pv 0) (pa_cons (pv 1) pa_nil))) pa_nil)))))
  (pss_cons (ps_set (i := 2) sc__law_row.nd rfl (by first | exact Or.inl rfl | exact Or.inr rfl) (pe_op op_cat (pv 2) (pe_lc (own := [("_law_turn", 3)]) (by rfl) sc__law_row.nd  (pi_range1 (by rfl) fr.b_range (pa_cons pe_int pa_nil)) (blkOk_by (own := [("_law_turn", 3)]) (N := ["_law_dice_here", "_law_root", "_law_rows", "_law_turn", "_law_top", "_law_part", "_law_side", "_law_bottom", "_law_factor"]) (sc := defScope (topS 39)) (by decide +kernel)) (fun _ _ _ _ _ => (pg_name (i := 3) sc__law_row.nd rfl (by first | exact Or.inl rfl | exact Or.inr rfl))) (fun _ _ _ _ _ => pts_nil) (fun _ _ _ _ _ => (pe_c1 G__law_parts_drawn (hr.mono (by decide)) (pa_cons (pv 0) (pa_cons (pe_c1 G__law_pick (hr.mono (by decide)) (pa_cons (pv 0) (pa_cons (pe_lst (pa_cons (pv 1) (pa_cons (pv 1) (pa_cons pe_int pa_nil)))) pa_nil))) pa_nil)))))))
  (pss_cons (ps_asg (pe_ix (ix_list : IxR _ (rIxL K)) (pv 2) (pe_c1 G__law_roll (hr.mono (by decide)) (pa_cons (pv 0) (pa_cons pe_int pa_nil))) (fun _ _ => rfl)) (pg_tup (by rfl) (pgs_cons (pg_name (i := 4) sc__law_row.nd rfl (by first | exact Or.inl rfl | exact Or.inr rfl)) (pgs_cons (pg_name (i := 5) sc__law_row.nd rfl (by first | exact Or.inl rfl | exact Or.inr rfl)) (pgs_cons (pg_name (i := 6) sc__law_row.nd rfl (by first | exact Or.inl rfl | exact Or.inr rfl)) (pgs_cons (pg_name (i := 7) sc__law_row.nd rfl (by first | exact Or.inl rfl | exact Or.inr rfl)) pgs_nil))))))
  (pss_cons (ps_set (i := 8) sc__law_row.nd rfl (by first | exact Or.inl rfl | exact Or.inr rfl) (pe_c1 G__law_pick (hr.mono (by decide)) (pa_cons (pv 0) (pa_cons (pe_lst (pa_cons pe_int (pa_cons (pe_un un_neg pe_int) (pa_cons (pe_op op_pow pe_int pe_int) pa_nil)))) pa_nil))))
  (pss_one (ps_ret (pe_c1 G__law_mixed (hr.mono (by decide)) (pa_cons (pv 0) (pa_cons (pe_op op_cat (pv 2) (pe_lst (pa_cons (pe_tup (pa_cons (pe_op op_mulX (pv 4) (pv 8)) (pa_cons (pe_op op_mulX (pv 5) (pv 8)) (pa_cons (pv 6) (pa_cons (pe_op op_mulX (pv 7) (pv 8)) pa_nil))))) pa_nil))) pa_nil))))))))), ?_⟩)
  refine fn_bodyD (X := E) (S := (aCons rInt aNil)) (E' := eNil) (R := (rLs (rTx K (aCons rInt (aCons rInt (aCons rInt (aCons rInt aNil))))))) (st_dice (st_par (st_un (st_un (st_un (st_un (st_un (st_un (st_un st_nil))))))))) rfl (s_seq (s_asg (SN.se (n_lst (hom_cons (hom_cons (hom_cons hom_nil))) (a_cons (e_tup (a_cons e_int (a_cons e_int (a_cons (e_var (getS get0)) (a_cons e_int a_nil)))) (le_n 4)) (a_cons (e_callD get0 (a_cons (e_var (getS get0)) a_nil)) (a_cons (e_callD get0 (a_cons (e_var (getS get0)) a_nil)) a_nil))) (le_n 3))) (g_name (putS (putS put0))))
  (s_seq (s_asg (SN.se (n_op o_catL (e_var (getS (getS get0))) (SN.se (n_lc (i_rng1 e_int) (gw_name (putS (putS (putS put0)))) t_yes (e_callD get0 (a_cons (e_pick get0 (SN.se (n_lst (hom_cons (hom_cons (hom_cons hom_nil))) (a_cons (e_var (getS get0)) (a_cons (e_var (getS get0)) (a_cons e_int a_nil))) (le_n 3)))) a_nil)))))) (g_name (putS (putS put0))))
  (s_seq (s_asg (e_op o_ixL (e_var (getS (getS get0))) (e_roll get0 e_int)) (g_tup (gs_cons (g_name (putS (putS (putS (putS put0))))) (gs_cons (g_name (putS (putS (putS (putS (putS put0)))))) (gs_cons (g_name (putS (putS (putS (putS (putS (putS put0))))))) (gs_cons (g_name (putS (putS (putS (putS (putS (putS (putS put0)))))))) gs_nil)))) rfl))
  (s_seq (s_asg (e_pick get0 (SN.se (n_lst (hom_cons (hom_cons (hom_cons hom_nil))) (a_cons e_int (a_cons (e_un (u_ii fun _ => rfl) e_int) (a_cons (e_op (o_iiC fun _ _ => rfl) e_int e_int) a_nil))) (le_n 3)))) (g_name (putS (putS (putS (putS (putS (putS (putS (putS put0))))))))))
  (s_ret (e_callD get0 (a_cons (SN.se (n_op o_catL (e_var (getS (getS get0))) (SN.se (n_lst (hom_cons hom_nil) (a_cons (e_tup (a_cons (e_op (o_iiC fun _ _ => rfl) (e_var (getS (getS (getS (getS get0))))) (e_var (getS (getS (getS (getS (getS (getS (getS (getS get0)))))))))) (a_cons (e_op (o_iiC fun _ _ => rfl) (e_var (getS (getS (getS (getS (getS get0)))))) (e_var (getS (getS (getS (getS (getS (getS (getS (getS get0)))))))))) (a_cons (e_var (getS (getS (getS (getS (getS (getS get0))))))) (a_cons (e_op (o_iiC fun _ _ => rfl) (e_var (getS (getS (getS (getS (getS (getS (getS get0)))))))) (e_var (getS (getS (getS (getS (getS (getS (getS (getS get0)))))))))) a_nil)))) (le_n 4)) a_nil) (le_n 1))))) a_nil))))))) ?_
  exact h
theorem sc__law_made : FnScope ["_law_parts"] ["_law_parts"] (defScope (topS 36)) := ⟨rfl, rfl, rfl, by decide +kernel, rfl, by decide +kernel, by decide +kernel⟩
noncomputable def b__law_made (ρ : ((Int × (Int × (Int × (Int × Unit)))) × Unit)) : M (Ct Unit Unit Nm) := (M.bind (M.bind (M.bind (M.ret ρ.1) fun (x341 : (Int × (Int × (Int × (Int × Unit))))) => M.ret x341.1) fun (x345 : Int) => M.bind (M.bind (M.ret ρ.1) fun (x342 : (Int × (Int × (Int × (Int × Unit))))) => M.ret x342.2.1) fun (x346 : Int) => M.bind (M.bind (M.ret ρ.1) fun (x343 : (Int × (Int × (Int × (Int × Unit))))) => M.ret x343.2.2.1) fun (x347 : Int) => M.bind (M.bind (M.ret ρ.1) fun (x344 : (Int × (Int × (Int × (Int × Unit))))) => M.ret x344.2.2.2.1) fun (x348 : Int) => M.need (x348 ≠ 0 ∧ okRoot x347 x346 ∧ Bd 9000 x348) (M.ret (mkNm x345 x346 x347 x348))) fun (x349 : Nm) => M.ret (.rt x349))
noncomputable def m__law_made (a : ((Int × (Int × (Int × (Int × Unit)))) × Unit)) : M Nm := M.fin (b__law_made (a.1, ()))
theorem ok__law_made (F : Fun K "_law_made" "_law_made" (topS 36) f fd) (G_NumberK : GMK P w K mg base "Number" CN 6 2 ["root", "bottom"] (spNumI CN CF)) : FnOk P w K mg base CX0 8 f fd ["_law_parts"] (spOf (aCons (rTx K (aCons rInt (aCons rInt (aCons rInt (aCons rInt aNil))))) aNil) (rNum CN) m__law_made) := by
  refine F.ok sc__law_made (fun vs H Q E h => spOf_len h) (fun cdv A outer s H vs Q E hr h => ⟨_, (pss_one (ps_ret (pe_mk G_NumberK (hr.mono (by decide)) (pa_cons (pe_ix (ix_tup : IxR _ (rIxT K)) (pv 0) pe_int (fun _ _ => rfl)) (pa_cons (pe_ix (ix_tup : IxR _ (rIxT K)) (pv 0) pe_int (fun _ _ => rfl)) pa_nil)) (pk_cons (pe_ix (ix_tup : IxR _ (rIxT K)) (pv 0) pe_int (fun _ _ => rfl)) (pk_cons (pe_ix (ix_tup : IxR _ (rIxT K)) (pv 0) pe_int (fun _ _ => rfl)) pk_nil))))), ?_⟩)
  refine fn_body (X := E) (S := (aCons (rTx K (aCons rInt (aCons rInt (aCons rInt (aCons rInt aNil))))) aNil)) (E' := eNil) (R := (rNum CN)) (st_par st_nil) rfl (s_ret (e_mkNum4 (e_ixX (i := 0) rget0 (e_var get0)) (e_ixX (i := 1) (rgetS rget0) (e_var get0)) (e_ixX (i := 2) (rgetS (rgetS rget0)) (e_var get0)) (e_ixX (i := 3) (rgetS (rgetS (rgetS rget0))) (e_var get0)))) ?_
  exact h
theorem sc__law_right : FnScope ["_law_dice_here", "_law_root", "_law_rows", "_law_numbers", "_law_row_here", "_law_at", "_law_to", "_law_sign_here", "_law_number", "_law_whole", "_law_floor", "_law_odd", "_law_value"] ["_law_dice_here"] (defScope (topS 40)) := ⟨rfl, rfl, rfl, by decide +kernel, rfl, by decide +kernel, by decide +kernel⟩
noncomputable def b__law_right (ρ : (Unit × (Unit × (Unit × (Unit × (Unit × (Unit × (Unit × (Unit × (Unit × (Unit × (Unit × (Unit × (Unit × Unit)))))))))))))) : M (Ct Unit Unit Bool) := (M.thn (M.bind (M.bind (M.bind (M.bind (M.ret (2 : Int)) fun (x360 : Int) => M.bind (M.bind (M.ret (3 : Int)) fun (x358 : Int) => M.bind (M.bind (M.ret (5 : Int)) fun (x356 : Int) => M.bind (M.bind (M.ret (6 : Int)) fun (x354 : Int) => M.bind (M.bind (M.ret (13 : Int)) fun (x352 : Int) => M.bind (M.bind (M.ret (997 : Int)) fun (x350 : Int) => M.bind (M.ret ()) fun (x351 : Unit) => M.ret (x350, x351)) fun (x353 : (Int × Unit)) => M.ret (x352, x353)) fun (x355 : (Int × (Int × Unit))) => M.ret (x354, x355)) fun (x357 : (Int × (Int × (Int × Unit)))) => M.ret (x356, x357)) fun (x359 : (Int × (Int × (Int × (Int × Unit))))) => M.ret (x358, x359)) fun (x361 : (Int × (Int × (Int × (Int × (Int × Unit)))))) => M.ret (x360, x361)) fun (r362 : (Int × (Int × (Int × (Int × (Int × (Int × Unit))))))) => M.ret [r362.1, r362.2.1, r362.2.2.1, r362.2.2.2.1, r362.2.2.2.2.1, r362.2.2.2.2.2.1]) fun (x363 : (List Int)) => M.pick x363) fun (x364 : Int) => M.ret (.nx (ρ.1, x364, ρ.2.2))) fun (ρ : (Unit × (Int × (Unit × (Unit × (Unit × (Unit × (Unit × (Unit × (Unit × (Unit × (Unit × (Unit × (Unit × Unit)))))))))))))) => (M.thn (M.bind (M.bind (M.bind (M.ret ρ.2.1) fun (x365 : Int) => M.bind (M.ret ()) fun (x366 : Unit) => M.ret (x365, x366)) fun (r367 : (Int × Unit)) => m__law_row r367) fun (x368 : (List (Int × (Int × (Int × (Int × Unit)))))) => M.ret (.nx (ρ.1, ρ.2.1, x368, ρ.2.2.2))) fun (ρ : (Unit × (Int × ((List (Int × (Int × (Int × (Int × Unit))))) × (Unit × (Unit × (Unit × (Unit × (Unit × (Unit × (Unit × (Unit × (Unit × (Unit × Unit)))))))))))))) => (M.thn (M.bind (M.bind (M.ret ρ.2.2.1) fun (l372 : List (Int × (Int × (Int × (Int × Unit))))) => M.need (l372.length ≤ 1000000) (M.lcM l372 fun (a373 : (Int × (Int × (Int × (Int × Unit))))) => M.bind ((fun (ρ : (Unit × (Int × ((List (Int × (Int × (Int × (Int × Unit))))) × (Unit × ((Int × (Int × (Int × (Int × Unit)))) × (Unit × (Unit × (Unit × (Unit × (Unit × (Unit × (Unit × (Unit × Unit)))))))))))))) => (M.ret true)) (ρ.1, ρ.2.1, ρ.2.2.1, ρ.2.2.2.1, a373, ρ.2.2.2.2.2)) fun (b374 : Bool) => M.ifb b374 (M.bind ((fun (ρ : (Unit × (Int × ((List (Int × (Int × (Int × (Int × Unit))))) × (Unit × ((Int × (Int × (Int × (Int × Unit)))) × (Unit × (Unit × (Unit × (Unit × (Unit × (Unit × (Unit × (Unit × Unit)))))))))))))) => (M.bind (M.bind (M.ret ρ.2.2.2.2.1) fun (x369 : (Int × (Int × (Int × (Int × Unit))))) => M.bind (M.ret ()) fun (x370 : Unit) => M.ret (x369, x370)) fun (r371 : ((Int × (Int × (Int × (Int × Unit)))) × Unit)) => M.still (m__law_made r371))) (ρ.1, ρ.2.1, ρ.2.2.1, ρ.2.2.2.1, a373, ρ.2.2.2.2.2)) fun (y375 : Nm) => M.ret (some y375)) (M.ret none))) fun (x376 : (List Nm)) => M.ret (.nx (ρ.1, ρ.2.1, ρ.2.2.1, x376, ρ.2.2.2.2))) fun (ρ : (Unit × (Int × ((List (Int × (Int × (Int × (Int × Unit))))) × ((List Nm) × (Unit × (Unit × (Unit × (Unit × (Unit × (Unit × (Unit × (Unit × (Unit × Unit)))))))))))))) => (M.thn (M.bind (M.bind (M.bind (M.bind (M.ret ρ.2.2.1) fun (x377 : (List (Int × (Int × (Int × (Int × Unit)))))) => M.bind (M.ret ()) fun (x378 : Unit) => M.ret (x377, x378)) fun (r379 : ((List (Int × (Int × (Int × (Int × Unit))))) × Unit)) => M.ret (r379.1.length : Int)) fun (x380 : Int) => M.need (-(2 ^ 62) ≤ x380 ∧ x380 < 2 ^ 62) (M.ret (rng 0 x380))) fun (l451 : List Int) => M.forM l451 (fun (a381 : Int) (ρ : (Unit × (Int × ((List (Int × (Int × (Int × (Int × Unit))))) × ((List Nm) × (Unit × (Unit × (Unit × (Unit × (Unit × (Unit × (Unit × (Unit × (Unit × Unit)))))))))))))) => (fun (ρ : (Unit × (Int × ((List (Int × (Int × (Int × (Int × Unit))))) × ((List Nm) × (Unit × (Int × (Unit × (Unit × (Unit × (Unit × (Unit × (Unit × (Unit × Unit)))))))))))))) => (M.thn (M.bind (M.bind (M.bind (M.bind (M.ret ρ.2.2.1) fun (x382 : (List (Int × (Int × (Int × (Int × Unit)))))) => M.bind (M.ret ()) fun (x383 : Unit) => M.ret (x382, x383)) fun (r384 : ((List (Int × (Int × (Int × (Int × Unit))))) × Unit)) => M.ret (r384.1.length : Int)) fun (x385 : Int) => M.need (-(2 ^ 62) ≤ x385 ∧ x385 < 2 ^ 62) (M.ret (rng 0 x385))) fun (l450 : List Int) => M.forM l450 (fun (a386 : Int) (ρ : (Unit × (Int × ((List (Int × (Int × (Int × (Int × Unit))))) × ((List Nm) × (Unit × (Int × (Unit × (Unit × (Unit × (Unit × (Unit × (Unit × (Unit × Unit)))))))))))))) => (fun (ρ : (Unit × (Int × ((List (Int × (Int × (Int × (Int × Unit))))) × ((List Nm) × (Unit × (Int × (Int × (Unit × (Unit × (Unit × (Unit × (Unit × (Unit × Unit)))))))))))))) => (M.thn (M.thn (M.bind (M.bind (M.bind (M.bind (M.ret ρ.2.2.1) fun (x387 : (List (Int × (Int × (Int × (Int × Unit)))))) => M.bind (M.ret ρ.2.2.2.2.2.1) fun (x388 : Int) => M.the (atI x387 x388)) fun (x395 : (Int × (Int × (Int × (Int × Unit))))) => M.bind (M.bind (M.bind (M.ret ρ.2.2.1) fun (x389 : (List (Int × (Int × (Int × (Int × Unit)))))) => M.bind (M.ret ρ.2.2.2.2.2.2.1) fun (x390 : Int) => M.the (atI x389 x390)) fun (x393 : (Int × (Int × (Int × (Int × Unit))))) => M.bind (M.bind (M.ret ρ.2.1) fun (x391 : Int) => M.bind (M.ret ()) fun (x392 : Unit) => M.ret (x391, x392)) fun (x394 : (Int × Unit)) => M.ret (x393, x394)) fun (x396 : ((Int × (Int × (Int × (Int × Unit)))) × (Int × Unit))) => M.ret (x395, x396)) fun (r397 : ((Int × (Int × (Int × (Int × Unit)))) × ((Int × (Int × (Int × (Int × Unit)))) × (Int × Unit)))) => M.still (m__law_beside r397)) fun (x398 : Int) => M.ret (.nx (ρ.1, ρ.2.1, ρ.2.2.1, ρ.2.2.2.1, ρ.2.2.2.2.1, ρ.2.2.2.2.2.1, ρ.2.2.2.2.2.2.1, x398, ρ.2.2.2.2.2.2.2.2))) fun (ρ : (Unit × (Int × ((List (Int × (Int × (Int × (Int × Unit))))) × ((List Nm) × (Unit × (Int × (Int × (Int × (Unit × (Unit × (Unit × (Unit × (Unit × Unit)))))))))))))) => (M.thn (M.bind (M.bind (M.bind (M.bind (M.bind (M.bind (M.bind (M.ret ρ.2.2.2.1) fun (x399 : (List Nm)) => M.bind (M.ret ρ.2.2.2.2.2.1) fun (x400 : Int) => M.the (atI x399 x400)) fun (x404 : Nm) => M.bind (M.bind (M.bind (M.ret ρ.2.2.2.1) fun (x401 : (List Nm)) => M.bind (M.ret ρ.2.2.2.2.2.2.1) fun (x402 : Int) => M.the (atI x401 x402)) fun (x403 : Nm) => M.ret (id x403)) fun (x405 : Nm) => M.need (Two x404 x405) (M.ret (cmpN x404 x405))) fun (x406 : Int) => M.bind (M.ret ()) fun (x407 : Unit) => M.ret (x406, x407)) fun (r408 : (Int × Unit)) => M.need ((PyData.int r408.1).showable = true ∧ (PyData.int r408.1).hasDict = false ∧ (PyData.int r408.1).shown.length ≤ sizeLine ∧ (PyData.int r408.1).depth ≤ 64) (M.ret (PyData.int r408.1).shown)) fun (x412 : Str) => M.bind (M.bind (M.bind (M.ret ρ.2.2.2.2.2.2.2.1) fun (x409 : Int) => M.bind (M.ret ()) fun (x410 : Unit) => M.ret (x409, x410)) fun (r411 : (Int × Unit)) => M.need ((PyData.int r411.1).showable = true ∧ (PyData.int r411.1).hasDict = false ∧ (PyData.int r411.1).shown.length ≤ sizeLine ∧ (PyData.int r411.1).depth ≤ 64) (M.ret (PyData.int r411.1).shown)) fun (x413 : Str) => M.ret (!decide (x412 = x413))) fun (x424 : Bool) => M.ifb x424 (M.ret true) (M.bind (M.bind (M.bind (M.ret ρ.2.2.2.1) fun (x414 : (List Nm)) => M.bind (M.ret ρ.2.2.2.2.2.1) fun (x415 : Int) => M.the (atI x414 x415)) fun (x418 : Nm) => M.bind (M.bind (M.ret ρ.2.2.2.1) fun (x416 : (List Nm)) => M.bind (M.ret ρ.2.2.2.2.2.2.1) fun (x417 : Int) => M.the (atI x416 x417)) fun (x419 : Nm) => M.ret (decide (x418 = x419))) fun (x422 : Bool) => M.bind (M.bind (M.ret ρ.2.2.2.2.2.2.2.1) fun (x420 : Int) => M.bind (M.ret (0 : Int)) fun (x421 : Int) => M.ret (decide (x420 = x421))) fun (x423 : Bool) => M.ret (!decide (x422 = x423)))) fun (x426 : Bool) => M.ifb x426 (M.bind (M.ret false) fun (x425 : Bool) => M.ret (.rt x425)) (M.ret (.nx ρ))) fun (ρ : (Unit × (Int × ((List (Int × (Int × (Int × (Int × Unit))))) × ((List Nm) × (Unit × (Int × (Int × (Int × (Unit × (Unit × (Unit × (Unit × (Unit × Unit)))))))))))))) => (M.bind (M.bind (M.bind (M.bind (M.bind (M.ret ρ.2.2.2.1) fun (x427 : (List Nm)) => M.bind (M.ret ρ.2.2.2.2.2.1) fun (x428 : Int) => M.the (atI x427 x428)) fun (x431 : Nm) => M.bind (M.bind (M.ret ρ.2.2.2.1) fun (x429 : (List Nm)) => M.bind (M.ret ρ.2.2.2.2.2.2.1) fun (x430 : Int) => M.the (atI x429 x430)) fun (x432 : Nm) => M.ret (!decide (x431 = x432))) fun (x435 : Bool) => M.bind (M.bind (M.ret ρ.2.2.2.2.2.2.2.1) fun (x433 : Int) => M.bind (M.ret (0 : Int)) fun (x434 : Int) => M.ret (decide (x433 = x434))) fun (x436 : Bool) => M.ret (decide (x435 = x436))) fun (x447 : Bool) => M.ifb x447 (M.ret true) (M.bind (M.bind (M.bind (M.bind (M.ret ρ.2.2.2.1) fun (x437 : (List Nm)) => M.bind (M.ret ρ.2.2.2.2.2.1) fun (x438 : Int) => M.the (atI x437 x438)) fun (x441 : Nm) => M.bind (M.bind (M.bind (M.ret ρ.2.2.2.1) fun (x439 : (List Nm)) => M.bind (M.ret ρ.2.2.2.2.2.2.1) fun (x440 : Int) => M.the (atI x439 x440)) fun (x443 : Nm) => M.ret (id x443)) fun (x442 : Nm) => M.need (Two x441 x442 ∧ True) (M.ret (subN x441 x442))) fun (x444 : Nm) => M.need (Gd 3800 x444) (M.ret ((fun n => sgnSum n.t n.p n.r) x444))) fun (x445 : Int) => M.bind (M.ret ρ.2.2.2.2.2.2.2.1) fun (x446 : Int) => M.ret (!decide (x445 = x446)))) fun (x449 : Bool) => M.ifb x449 (M.bind (M.ret false) fun (x448 : Bool) => M.ret (.rt x448)) (M.ret (.nx ρ))))) fun (ρ : (Unit × (Int × ((List (Int × (Int × (Int × (Int × Unit))))) × ((List Nm) × (Unit × (Int × (Int × (Int × (Unit × (Unit × (Unit × (Unit × (Unit × Unit)))))))))))))) => M.ret (.nx (ρ.1, ρ.2.1, ρ.2.2.1, ρ.2.2.2.1, ρ.2.2.2.2.1, ρ.2.2.2.2.2.1, (), (), ρ.2.2.2.2.2.2.2.2.1, ρ.2.2.2.2.2.2.2.2.2.1, ρ.2.2.2.2.2.2.2.2.2.2.1, ρ.2.2.2.2.2.2.2.2.2.2.2.1, ρ.2.2.2.2.2.2.2.2.2.2.2.2.1, ρ.2.2.2.2.2.2.2.2.2.2.2.2.2)))) (ρ.1, ρ.2.1, ρ.2.2.1, ρ.2.2.2.1, ρ.2.2.2.2.1, ρ.2.2.2.2.2.1, a386, ρ.2.2.2.2.2.2.2)) ρ) fun (ρ : (Unit × (Int × ((List (Int × (Int × (Int × (Int × Unit))))) × ((List Nm) × (Unit × (Int × (Unit × (Unit × (Unit × (Unit × (Unit × (Unit × (Unit × Unit)))))))))))))) => M.ret (.nx (ρ.1, ρ.2.1, ρ.2.2.1, ρ.2.2.2.1, ρ.2.2.2.2.1, (), ρ.2.2.2.2.2.2.1, ρ.2.2.2.2.2.2.2.1, ρ.2.2.2.2.2.2.2.2.1, ρ.2.2.2.2.2.2.2.2.2.1, ρ.2.2.2.2.2.2.2.2.2.2.1, ρ.2.2.2.2.2.2.2.2.2.2.2.1, ρ.2.2.2.2.2.2.2.2.2.2.2.2.1, ρ.2.2.2.2.2.2.2.2.2.2.2.2.2)))) (ρ.1, ρ.2.1, ρ.2.2.1, ρ.2.2.2.1, ρ.2.2.2.2.1, a381, ρ.2.2.2.2.2.2)) ρ) fun (ρ : (Unit × (Int × ((List (Int × (Int × (Int × (Int × Unit))))) × ((List Nm) × (Unit × (Unit × (Unit × (Unit × (Unit × (Unit × (Unit × (Unit × (Unit × Unit)))))))))))))) => (M.thn (M.bind (M.bind (M.bind (M.ret ρ.2.2.2.1) fun (x452 : (List Nm)) => M.bind (M.ret (0 : Int)) fun (x453 : Int) => M.the (atI x452 x453)) fun (x459 : Nm) => M.bind (M.bind (M.bind (M.bind (M.ret (7 : Int)) fun (x454 : Int) => M.roll x454) fun (x455 : Int) => M.bind (M.ret (3 : Int)) fun (x456 : Int) => M.ret (x455 - x456)) fun (x457 : Int) => M.bind (M.ret ()) fun (x458 : Unit) => M.ret (x457, x458)) fun (x460 : (Int × Unit)) => M.ret (x459, x460)) fun (x461 : (Nm × (Int × Unit))) => M.ret (.nx (ρ.1, ρ.2.1, ρ.2.2.1, ρ.2.2.2.1, ρ.2.2.2.2.1, ρ.2.2.2.2.2.1, ρ.2.2.2.2.2.2.1, ρ.2.2.2.2.2.2.2.1, x461.1, x461.2.1, ρ.2.2.2.2.2.2.2.2.2.2.1, ρ.2.2.2.2.2.2.2.2.2.2.2.1, ρ.2.2.2.2.2.2.2.2.2.2.2.2.1, ρ.2.2.2.2.2.2.2.2.2.2.2.2.2))) fun (ρ : (Unit × (Int × ((List (Int × (Int × (Int × (Int × Unit))))) × ((List Nm) × (Unit × (Unit × (Unit × (Unit × (Nm × (Int × (Unit × (Unit × (Unit × Unit)))))))))))))) => (M.thn (M.bind (M.bind (M.bind (M.bind (M.ret ρ.2.2.1) fun (x462 : (List (Int × (Int × (Int × (Int × Unit)))))) => M.bind (M.ret (0 : Int)) fun (x463 : Int) => M.the (atI x462 x463)) fun (x476 : (Int × (Int × (Int × (Int × Unit))))) => M.bind (M.bind (M.bind (M.ret ρ.2.2.2.2.2.2.2.2.2.1) fun (x470 : Int) => M.bind (M.bind (M.ret (0 : Int)) fun (x468 : Int) => M.bind (M.bind (M.ret (0 : Int)) fun (x466 : Int) => M.bind (M.bind (M.ret (1 : Int)) fun (x464 : Int) => M.bind (M.ret ()) fun (x465 : Unit) => M.ret (x464, x465)) fun (x467 : (Int × Unit)) => M.ret (x466, x467)) fun (x469 : (Int × (Int × Unit))) => M.ret (x468, x469)) fun (x471 : (Int × (Int × (Int × Unit)))) => M.ret (x470, x471)) fun (x474 : (Int × (Int × (Int × (Int × Unit))))) => M.bind (M.bind (M.ret ρ.2.1) fun (x472 : Int) => M.bind (M.ret ()) fun (x473 : Unit) => M.ret (x472, x473)) fun (x475 : (Int × Unit)) => M.ret (x474, x475)) fun (x477 : ((Int × (Int × (Int × (Int × Unit)))) × (Int × Unit))) => M.ret (x476, x477)) fun (r478 : ((Int × (Int × (Int × (Int × Unit)))) × ((Int × (Int × (Int × (Int × Unit)))) × (Int × Unit)))) => M.still (m__law_beside r478)) fun (x479 : Int) => M.ret (.nx (ρ.1, ρ.2.1, ρ.2.2.1, ρ.2.2.2.1, ρ.2.2.2.2.1, ρ.2.2.2.2.2.1, ρ.2.2.2.2.2.2.1, x479, ρ.2.2.2.2.2.2.2.2))) fun (ρ : (Unit × (Int × ((List (Int × (Int × (Int × (Int × Unit))))) × ((List Nm) × (Unit × (Unit × (Unit × (Int × (Nm × (Int × (Unit × (Unit × (Unit × Unit)))))))))))))) => (M.thn (M.bind (M.bind (M.bind (M.bind (M.bind (M.bind (M.ret ρ.2.2.2.2.2.2.2.2.1) fun (x481 : Nm) => M.bind (M.bind (M.ret ρ.2.2.2.2.2.2.2.2.2.1) fun (x480 : Int) => M.ret (mkNm x480 0 0 1)) fun (x482 : Nm) => M.need (Two x481 x482) (M.ret (cmpN x481 x482))) fun (x483 : Int) => M.bind (M.ret ()) fun (x484 : Unit) => M.ret (x483, x484)) fun (r485 : (Int × Unit)) => M.need ((PyData.int r485.1).showable = true ∧ (PyData.int r485.1).hasDict = false ∧ (PyData.int r485.1).shown.length ≤ sizeLine ∧ (PyData.int r485.1).depth ≤ 64) (M.ret (PyData.int r485.1).shown)) fun (x489 : Str) => M.bind (M.bind (M.bind (M.ret ρ.2.2.2.2.2.2.2.1) fun (x486 : Int) => M.bind (M.ret ()) fun (x487 : Unit) => M.ret (x486, x487)) fun (r488 : (Int × Unit)) => M.need ((PyData.int r488.1).showable = true ∧ (PyData.int r488.1).hasDict = false ∧ (PyData.int r488.1).shown.length ≤ sizeLine ∧ (PyData.int r488.1).depth ≤ 64) (M.ret (PyData.int r488.1).shown)) fun (x490 : Str) => M.ret (!decide (x489 = x490))) fun (x497 : Bool) => M.ifb x497 (M.ret true) (M.bind (M.bind (M.ret ρ.2.2.2.2.2.2.2.2.1) fun (x493 : Nm) => M.bind (M.bind (M.bind (M.ret ρ.2.2.2.2.2.2.2.2.2.1) fun (x491 : Int) => M.ret (mkNm x491 0 0 1)) fun (x492 : Nm) => M.ret (id x492)) fun (x494 : Nm) => M.need (Two x493 x494) (M.ret (cmpN x493 x494))) fun (x495 : Int) => M.bind (M.ret ρ.2.2.2.2.2.2.2.1) fun (x496 : Int) => M.ret (!decide (x495 = x496)))) fun (x499 : Bool) => M.ifb x499 (M.bind (M.ret false) fun (x498 : Bool) => M.ret (.rt x498)) (M.ret (.nx ρ))) fun (ρ : (Unit × (Int × ((List (Int × (Int × (Int × (Int × Unit))))) × ((List Nm) × (Unit × (Unit × (Unit × (Int × (Nm × (Int × (Unit × (Unit × (Unit × Unit)))))))))))))) => (M.thn (M.bind (M.bind (M.ret ρ.2.2.2.2.2.2.2.2.1) fun (x500 : Nm) => M.need (Gd 3800 x500) (M.ret ((fun n => floorN n.t n.p n.r n.b) x500))) fun (x501 : Int) => M.ret (.nx (ρ.1, ρ.2.1, ρ.2.2.1, ρ.2.2.2.1, ρ.2.2.2.2.1, ρ.2.2.2.2.2.1, ρ.2.2.2.2.2.2.1, ρ.2.2.2.2.2.2.2.1, ρ.2.2.2.2.2.2.2.2.1, ρ.2.2.2.2.2.2.2.2.2.1, x501, ρ.2.2.2.2.2.2.2.2.2.2.2))) fun (ρ : (Unit × (Int × ((List (Int × (Int × (Int × (Int × Unit))))) × ((List Nm) × (Unit × (Unit × (Unit × (Int × (Nm × (Int × (Int × (Unit × (Unit × Unit)))))))))))))) => (M.thn (M.bind (M.bind (M.bind (M.bind (M.ret ρ.2.2.2.2.2.2.2.2.1) fun (x503 : Nm) => M.bind (M.bind (M.ret ρ.2.2.2.2.2.2.2.2.2.2.1) fun (x502 : Int) => M.ret (mkNm x502 0 0 1)) fun (x504 : Nm) => M.need (Two x503 x504) (M.ret (cmpN x503 x504))) fun (x505 : Int) => M.bind (M.ret (0 : Int)) fun (x506 : Int) => M.ret (decide (x505 < x506))) fun (x521 : Bool) => M.ifb x521 (M.ret true) (M.bind (M.bind (M.bind (M.ret ρ.2.2.2.2.2.2.2.2.1) fun (x510 : Nm) => M.bind (M.bind (M.bind (M.ret ρ.2.2.2.2.2.2.2.2.2.2.1) fun (x507 : Int) => M.bind (M.ret (1 : Int)) fun (x508 : Int) => M.ret (x507 + x508)) fun (x509 : Int) => M.ret (mkNm x509 0 0 1)) fun (x511 : Nm) => M.need (Two x510 x511) (M.ret (cmpN x510 x511))) fun (x512 : Int) => M.bind (M.ret (0 : Int)) fun (x513 : Int) => M.ret (decide (x513 ≤ x512))) fun (x520 : Bool) => M.ifb x520 (M.ret true) (M.bind (M.bind (M.ret ρ.2.2.2.2.2.2.2.2.1) fun (x515 : Nm) => M.bind (M.bind (M.ret (0 : Int)) fun (x514 : Int) => M.ret (mkNm x514 0 0 1)) fun (x516 : Nm) => M.need (Two x515 x516) (M.ret (cmpN x515 x516))) fun (x518 : Int) => M.bind (M.bind (M.ret ρ.2.2.2.2.2.2.2.2.1) fun (x517 : Nm) => M.need (Gd 3800 x517) (M.ret ((fun n => sgnSum n.t n.p n.r) x517))) fun (x519 : Int) => M.ret (!decide (x518 = x519))))) fun (x523 : Bool) => M.ifb x523 (M.bind (M.ret false) fun (x522 : Bool) => M.ret (.rt x522)) (M.ret (.nx ρ))) fun (ρ : (Unit × (Int × ((List (Int × (Int × (Int × (Int × Unit))))) × ((List Nm) × (Unit × (Unit × (Unit × (Int × (Nm × (Int × (Int × (Unit × (Unit × Unit)))))))))))))) => (M.thn (M.bind (M.bind (M.bind (M.bind (M.ret ()) fun (x527 : Unit) => M.ret ()) fun (x549 : Unit) => M.bind (M.bind (M.bind (M.ret ρ.2.2.2.2.2.2.2.2.2.1) fun (x528 : Int) => M.ret ()) fun (x547 : Unit) => M.bind (M.bind (M.bind (M.ret true) fun (x529 : Bool) => M.ret ()) fun (x545 : Unit) => M.bind (M.bind (M.bind (M.ret ("1" : Str)) fun (x530 : Str) => M.ret ()) fun (x543 : Unit) => M.bind (M.bind (M.bind (M.bind (M.ret ρ.2.2.2.2.2.2.2.2.1) fun (x524 : Nm) => M.bind (M.ret ()) fun (x525 : Unit) => M.ret (x524, x525)) fun (x531 : (Nm × Unit)) => M.ret ()) fun (x541 : Unit) => M.bind (M.bind (M.bind (M.bind (M.ret ()) fun _ => M.ret ([] : List Int)) fun (x532 : (List Int)) => M.ret ()) fun (x539 : Unit) => M.bind (M.bind (M.bind (M.ret ()) fun (x533 : Unit) => M.ret ()) fun (x537 : Unit) => M.bind (M.bind (M.bind (M.bind (M.ret ρ.2.2.2.2.2.2.2.2.1) fun (x526 : Nm) => M.need (Gd 1900 x526) (M.ret (toldT (Nm.t x526) (Nm.p x526) (Nm.r x526) (Nm.b x526)))) fun (x534 : Str) => M.ret ()) fun (x535 : Unit) => M.bind (M.ret ()) fun (x536 : Unit) => M.ret (x535, x536)) fun (x538 : (Unit × Unit)) => M.ret (x537, x538)) fun (x540 : (Unit × (Unit × Unit))) => M.ret (x539, x540)) fun (x542 : (Unit × (Unit × (Unit × Unit)))) => M.ret (x541, x542)) fun (x544 : (Unit × (Unit × (Unit × (Unit × Unit))))) => M.ret (x543, x544)) fun (x546 : (Unit × (Unit × (Unit × (Unit × (Unit × Unit)))))) => M.ret (x545, x546)) fun (x548 : (Unit × (Unit × (Unit × (Unit × (Unit × (Unit × Unit))))))) => M.ret (x547, x548)) fun (x550 : (Unit × (Unit × (Unit × (Unit × (Unit × (Unit × (Unit × Unit)))))))) => M.ret (x549, x550)) fun (r551 : (Unit × (Unit × (Unit × (Unit × (Unit × (Unit × (Unit × (Unit × Unit))))))))) => M.ret [r551.1, r551.2.1, r551.2.2.1, r551.2.2.2.1, r551.2.2.2.2.1, r551.2.2.2.2.2.1, r551.2.2.2.2.2.2.1, r551.2.2.2.2.2.2.2.1]) fun (x552 : (List Unit)) => M.ret (.nx (ρ.1, ρ.2.1, ρ.2.2.1, ρ.2.2.2.1, ρ.2.2.2.2.1, ρ.2.2.2.2.2.1, ρ.2.2.2.2.2.2.1, ρ.2.2.2.2.2.2.2.1, ρ.2.2.2.2.2.2.2.2.1, ρ.2.2.2.2.2.2.2.2.2.1, ρ.2.2.2.2.2.2.2.2.2.2.1, x552, ρ.2.2.2.2.2.2.2.2.2.2.2.2))) fun (ρ : (Unit × (Int × ((List (Int × (Int × (Int × (Int × Unit))))) × ((List Nm) × (Unit × (Unit × (Unit × (Int × (Nm × (Int × (Int × ((List Unit) × (Unit × Unit)))))))))))))) => (M.bind (M.bind (M.bind (M.ret ρ.2.2.2.2.2.2.2.2.2.2.2.1) fun (l559 : List Unit) => M.need (l559.length ≤ 1000000) (M.lcM l559 fun (a560 : Unit) => M.bind ((fun (ρ : (Unit × (Int × ((List (Int × (Int × (Int × (Int × Unit))))) × ((List Nm) × (Unit × (Unit × (Unit × (Int × (Nm × (Int × (Int × ((List Unit) × (Unit × Unit)))))))))))))) => (M.bind (M.bind (M.ret ρ.2.2.2.2.2.2.2.2.1) fun (x553 : Nm) => M.bind (M.ret ρ.2.2.2.2.2.2.2.2.2.2.2.2.1) fun (x554 : Unit) => M.ret false) fun (x558 : Bool) => M.ifb x558 (M.ret true) (M.bind (M.bind (M.ret ρ.2.2.2.2.2.2.2.2.1) fun (x555 : Nm) => M.bind (M.ret ρ.2.2.2.2.2.2.2.2.2.2.2.2.1) fun (x556 : Unit) => M.ret true) fun (x557 : Bool) => M.ret (!x557)))) (ρ.1, ρ.2.1, ρ.2.2.1, ρ.2.2.2.1, ρ.2.2.2.2.1, ρ.2.2.2.2.2.1, ρ.2.2.2.2.2.2.1, ρ.2.2.2.2.2.2.2.1, ρ.2.2.2.2.2.2.2.2.1, ρ.2.2.2.2.2.2.2.2.2.1, ρ.2.2.2.2.2.2.2.2.2.2.1, ρ.2.2.2.2.2.2.2.2.2.2.2.1, a560, ρ.2.2.2.2.2.2.2.2.2.2.2.2.2)) fun (b561 : Bool) => M.ifb b561 (M.bind ((fun (ρ : (Unit × (Int × ((List (Int × (Int × (Int × (Int × Unit))))) × ((List Nm) × (Unit × (Unit × (Unit × (Int × (Nm × (Int × (Int × ((List Unit) × (Unit × Unit)))))))))))))) => (M.ret ρ.2.2.2.2.2.2.2.2.2.2.2.2.1)) (ρ.1, ρ.2.1, ρ.2.2.1, ρ.2.2.2.1, ρ.2.2.2.2.1, ρ.2.2.2.2.2.1, ρ.2.2.2.2.2.2.1, ρ.2.2.2.2.2.2.2.1, ρ.2.2.2.2.2.2.2.2.1, ρ.2.2.2.2.2.2.2.2.2.1, ρ.2.2.2.2.2.2.2.2.2.2.1, ρ.2.2.2.2.2.2.2.2.2.2.2.1, a560, ρ.2.2.2.2.2.2.2.2.2.2.2.2.2)) fun (y562 : Unit) => M.ret (some y562)) (M.ret none))) fun (x563 : (List Unit)) => M.bind (M.bind (M.ret ()) fun _ => M.ret ([] : (List Unit))) fun (x564 : (List Unit)) => M.need (x563 = [] ∧ x564 = []) (M.ret true)) fun (x565 : Bool) => M.ret (.rt x565))))))))))))
noncomputable def m__law_right (a : Unit) : M Bool := M.fin (b__law_right ((), ((), ((), ((), ((), ((), ((), ((), ((), ((), ((), ((), ((), ()))))))))))))))
theorem ok__law_right (F : Fun K "_law_right" "_law_right" (topS 40) f fd) (bn : Binds K fd ["_law_dice_here"] []) (G__law_pick : GD P w K mg base "_law_pick" 3 spPick) (G__law_row : GD P w K mg base "_law_row" 5 (spOfD (aCons rInt aNil) (rLs (rTx K (aCons rInt (aCons rInt (aCons rInt (aCons rInt aNil)))))) m__law_row)) (G__law_made : GD P w K mg base "_law_made" 8 (spOf (aCons (rTx K (aCons rInt (aCons rInt (aCons rInt (aCons rInt aNil))))) aNil) (rNum CN) m__law_made)) (fr : Free mg) (G__law_beside : GD P w K mg base "_law_beside" 3 (spOf (aCons (rTx K (aCons rInt (aCons rInt (aCons rInt (aCons rInt aNil))))) (aCons (rTx K (aCons rInt (aCons rInt (aCons rInt (aCons rInt aNil))))) (aCons rInt aNil))) rInt m__law_beside)) (T : NTxt K mg CN CF) (M_compared : GMe P w K mg base CN "compared" 10 (spCmp CN)) (G_eq : GE P w K mg base CN 2 (spEq K CN)) (G_sub : GB P w K mg base CN .Sub 9 (spBin CN subN fun _ _ => True)) (P_sign : GP P w K mg base CN "sign" 4 (spInt CN fun n => sgnSum n.t n.p n.r)) (G__law_roll : GD P w K mg base "_law_roll" 2 spRoll) (G_Number : GM P w K mg base "Number" CN 6 [.int 0, .int 0, .int 1] (spNumI CN CF)) (P_floor : GP P w K mg base CN "floor" 4 (spInt CN fun n => floorN n.t n.p n.r n.b)) (S_str : GS P w K mg base CN 3 (spStr CN)) (O : OTxt K CN) : FnG P w K mg base 11 f 1 (spOfD aNil rBl m__law_right) := by
  refine PF.Fun.okG F sc__law_right bn (fun cdv A outer s H vs Q hgd hr h => ⟨_, (pss_cons (ps_set (i := 1) sc__law_right.nd rfl (by first | exact Or.inl rfl | exact Or.inr rfl) (pe_c1 G__law_pick (hr.mono (by decide)) (pa_cons (pv 0) (pa_cons (pe_lst (pa_cons pe_int (pa_cons pe_int (pa_cons pe_int (pa_cons pe_int (pa_cons pe_int (pa_cons pe_int pa_nil))))))) pa_nil))))
  (pss_cons (ps_set (i := 2) sc__law_right.nd rfl (by first | exact Or.inl rfl | exact Or.inr rfl) (pe_c1 G__law_row (hr.mono (by decide)) (pa_cons (pv 0) (pa_cons (pv 1) pa_nil))))
  (pss_cons (ps_setLc (i := 3) (own := [("_law_row_here", 4)]) (by rfl) sc__law_right.nd rfl rfl (sw_true rfl rfl rfl (by decide +kernel)) (pi_list (pv 2)) (blkOk_by (own := [("_law_row_here", 4)]) (N := ["_law_dice_here", "_law_root", "_law_rows", "_law_numbers", "_law_row_here", "_law_at", "_law_to", "_law_sign_here", "_law_number", "_law_whole", "_law_floor", "_law_odd", "_law_value"]) (sc := defScope (topS 40)) (by decide +kernel)) (fun _ _ _ _ _ => (pg_name (i := 4) sc__law_right.nd rfl (by first | exact Or.inl rfl | exact Or.inr rfl))) (fun _ _ _ _ _ => pts_nil) (fun _ _ _ _ _ => (pe_c1 G__law_made (hr.mono (by decide)) (pa_cons (pv 4) pa_nil))))
  (pss_cons (ps_for PassesOwn.never rfl (pi_range1 (by rfl) fr.b_range (pa_cons (pe_callB call_len (by rfl) fr.b_len (by decide +kernel) (pa_cons (pv 2) pa_nil)) pa_nil)) (pg_name (i := 5) sc__law_right.nd rfl (by first | exact Or.inl rfl | exact Or.inr rfl)) (pss_one (ps_for PassesOwn.never rfl (pi_range1 (by rfl) fr.b_range (pa_cons (pe_callB call_len (by rfl) fr.b_len (by decide +kernel) (pa_cons (pv 2) pa_nil)) pa_nil)) (pg_name (i := 6) sc__law_right.nd rfl (by first | exact Or.inl rfl | exact Or.inr rfl)) (pss_cons (ps_set (i := 7) sc__law_right.nd rfl (by first | exact Or.inl rfl | exact Or.inr rfl) (pe_c1 G__law_beside (hr.mono (by decide)) (pa_cons (pe_ix (ix_list : IxR _ (rIxL K)) (pv 2) (pv 5) (fun _ _ => rfl)) (pa_cons (pe_ix (ix_list : IxR _ (rIxL K)) (pv 2) (pv 6) (fun _ _ => rfl)) (pa_cons (pv 1) pa_nil)))))
  (pss_cons (ps_if (PW.pt (pw_or (pt_cmpR op_ne (pe_callB (call_repr hgd (hu100 hr)) (by rfl) fr.b_repr (by decide +kernel) (pa_cons (pe_me T.cN M_compared (hr.mono (by decide)) (pe_ix (ix_list : IxR _ (rIxL K)) (pv 3) (pv 5) (fun _ _ => rfl)) (pa_cons (pe_ix (ix_list : IxR _ (rIxL K)) (pv 3) (pv 6) (fun _ _ => rfl)) pa_nil)) pa_nil)) (pe_callB (call_repr hgd (hu100 hr)) (by rfl) fr.b_repr (by decide +kernel) (pa_cons (pv 7) pa_nil)) (nomark _)) (pw_or1 (pt_cmpR op_ne (pe_cmpR (op_eqE G_eq (hr.mono (by decide)) : OpR _ _ (rCmpS K CN false (spEq K CN) E0)) (pe_ix (ix_list : IxR _ (rIxL K)) (pv 3) (pv 5) (fun _ _ => rfl)) (pe_ix (ix_list : IxR _ (rIxL K)) (pv 3) (pv 6) (fun _ _ => rfl)) (nomark _)) (pe_cmpR op_eq (pv 7) pe_int (nomark _)) (nomark _))))) (pss_one (ps_ret pe_bl)) pss_nil)
  (pss_one (ps_if (PW.pt (pw_or (pt_cmpR op_eq (pe_cmpR (op_neE G_eq (hr.mono (by decide)) : OpR _ _ (rCmpS K CN true (spEq K CN) E0)) (pe_ix (ix_list : IxR _ (rIxL K)) (pv 3) (pv 5) (fun _ _ => rfl)) (pe_ix (ix_list : IxR _ (rIxL K)) (pv 3) (pv 6) (fun _ _ => rfl)) (nomark _)) (pe_cmpR op_eq (pv 7) pe_int (nomark _)) (nomark _)) (pw_or1 (pt_cmpR op_ne (pe_p1 T.cN P_sign (hr.mono (by decide)) (pe_op (op_b G_sub (hr.mono (by decide))) (pe_ix (ix_list : IxR _ (rIxL K)) (pv 3) (pv 5) (fun _ _ => rfl)) (pe_ix (ix_list : IxR _ (rIxL K)) (pv 3) (pv 6) (fun _ _ => rfl)))) (pv 7) (nomark _))))) (pss_one (ps_ret pe_bl)) pss_nil)))))))
  (pss_cons (ps_asg (pe_tup (pa_cons (pe_ix (ix_list : IxR _ (rIxL K)) (pv 3) pe_int (fun _ _ => rfl)) (pa_cons (pe_op op_sub (pe_c1 G__law_roll (hr.mono (by decide)) (pa_cons (pv 0) (pa_cons pe_int pa_nil))) pe_int) pa_nil))) (pg_tup (by rfl) (pgs_cons (pg_name (i := 8) sc__law_right.nd rfl (by first | exact Or.inl rfl | exact Or.inr rfl)) (pgs_cons (pg_name (i := 9) sc__law_right.nd rfl (by first | exact Or.inl rfl | exact Or.inr rfl)) pgs_nil))))
  (pss_cons (ps_set (i := 7) sc__law_right.nd rfl (by first | exact Or.inl rfl | exact Or.inr rfl) (pe_c1 G__law_beside (hr.mono (by decide)) (pa_cons (pe_ix (ix_list : IxR _ (rIxL K)) (pv 2) pe_int (fun _ _ => rfl)) (pa_cons (pe_tup (pa_cons (pv 9) (pa_cons pe_int (pa_cons pe_int (pa_cons pe_int pa_nil))))) (pa_cons (pv 1) pa_nil)))))
  (pss_cons (ps_if (PW.pt (pw_or (pt_cmpR op_ne (pe_callB (call_repr hgd (hu100 hr)) (by rfl) fr.b_repr (by decide +kernel) (pa_cons (pe_me T.cN M_compared (hr.mono (by decide)) (pv 8) (pa_cons (pv 9) pa_nil)) pa_nil)) (pe_callB (call_repr hgd (hu100 hr)) (by rfl) fr.b_repr (by decide +kernel) (pa_cons (pv 7) pa_nil)) (nomark _)) (pw_or1 (pt_cmpR op_ne (pe_me T.cN M_compared (hr.mono (by decide)) (pv 8) (pa_cons (pe_m1 G_Number (hr.mono (by decide)) (pa_cons (pv 9) pa_nil)) pa_nil)) (pv 7) (nomark _))))) (pss_one (ps_ret pe_bl)) pss_nil)
  (pss_cons (ps_set (i := 10) sc__law_right.nd rfl (by first | exact Or.inl rfl | exact Or.inr rfl) (pe_p1 T.cN P_floor (hr.mono (by decide)) (pv 8)))
  (pss_cons (ps_if (PW.pt (pw_or (pt_cmpR op_lt (pe_me T.cN M_compared (hr.mono (by decide)) (pv 8) (pa_cons (pv 10) pa_nil)) pe_int (nomark _)) (pw_or (pt_cmpR op_ge (pe_me T.cN M_compared (hr.mono (by decide)) (pv 8) (pa_cons (pe_op op_add (pv 10) pe_int) pa_nil)) pe_int (nomark _)) (pw_or1 (pt_cmpR op_ne (pe_me T.cN M_compared (hr.mono (by decide)) (pv 8) (pa_cons pe_int pa_nil)) (pe_p1 T.cN P_sign (hr.mono (by decide)) (pv 8)) (nomark _)))))) (pss_one (ps_ret pe_bl)) pss_nil)
  (pss_cons (ps_set (i := 11) sc__law_right.nd rfl (by first | exact Or.inl rfl | exact Or.inr rfl) (pe_lst (pa_cons pe_non (pa_cons (pv 9) (pa_cons pe_bl (pa_cons pe_str (pa_cons (pe_tup (pa_cons (pv 8) pa_nil)) (pa_cons (pe_lst pa_nil) (pa_cons pe_dnewK (pa_cons (pe_callTy (call_strN S_str (hr.mono (by decide))) (by rfl) fr.b_str (by decide +kernel) (pa_cons (pv 8) pa_nil)) pa_nil))))))))))
  (pss_one (ps_ret (pe_cmpR (op_eqD (hu64 hr) : OpR _ _ (rEqD K)) (pe_lc (own := [("_law_value", 12)]) (by rfl) sc__law_right.nd  (pi_list (pv 11)) (blkOk_by (own := [("_law_value", 12)]) (N := ["_law_dice_here", "_law_root", "_law_rows", "_law_numbers", "_law_row_here", "_law_at", "_law_to", "_law_sign_here", "_law_number", "_law_whole", "_law_floor", "_law_odd", "_law_value"]) (sc := defScope (topS 40)) (by decide +kernel)) (fun _ _ _ _ _ => (pg_name (i := 12) sc__law_right.nd rfl (by first | exact Or.inl rfl | exact Or.inr rfl))) (fun _ _ _ _ _ => (pts_one (PW.pt (pw_or (pt_cmpR (op_eqE G_eq (hr.mono (by decide)) : OpR _ _ (rCmpS K CN false (spEq K CN) E0)) (pv 8) (pv 12) (nomark _)) (pw_or1 (pt_not (pt_cmpR (op_neE G_eq (hr.mono (by decide)) : OpR _ _ (rCmpS K CN true (spEq K CN) E0)) (pv 8) (pv 12) (nomark _)))))))) (fun _ _ _ _ _ => (pv 12))) (pe_lst pa_nil) (nomark _)))))))))))))), ?_⟩)
  refine fn_bodyD (X := E0) (S := aNil) (E' := eNil) (R := rBl) (st_dice (st_un (st_un (st_un (st_un (st_un (st_un (st_un (st_un (st_un (st_un (st_un (st_un st_nil))))))))))))) rfl (s_seq (s_asg (e_pick get0 (SN.se (n_lst (hom_cons (hom_cons (hom_cons (hom_cons (hom_cons (hom_cons hom_nil)))))) (a_cons e_int (a_cons e_int (a_cons e_int (a_cons e_int (a_cons e_int (a_cons e_int a_nil)))))) (le_n 6)))) (g_name (putS put0)))
  (s_seq (s_asg (e_callD get0 (a_cons (e_var (getS get0)) a_nil)) (g_name (putS (putS put0))))
  (s_seq (s_asg (SN.se (n_lc (i_ls (e_var (getS (getS get0)))) (gw_name (putS (putS (putS (putS put0))))) t_yes (e_call (a_cons (e_var (getS (getS (getS (getS get0))))) a_nil)))) (g_name (putS (putS (putS put0)))))
  (s_seq (s_for (i_rng1 (e_ca (c_len len_ls) (a_cons (e_var (getS (getS get0))) a_nil))) (g_name (putS (putS (putS (putS (putS put0)))))) (s_post (s_for (i_rng1 (e_ca (c_len len_ls) (a_cons (e_var (getS (getS get0))) a_nil))) (g_name (putS (putS (putS (putS (putS (putS put0))))))) (s_post (s_seq (s_asg (e_call (a_cons (e_op o_ixL (e_var (getS (getS get0))) (e_var (getS (getS (getS (getS (getS get0))))))) (a_cons (e_op o_ixL (e_var (getS (getS get0))) (e_var (getS (getS (getS (getS (getS (getS get0)))))))) (a_cons (e_var (getS get0)) a_nil)))) (g_name (putS (putS (putS (putS (putS (putS (putS put0)))))))))
  (s_seq (s_if (t_or (t_of (e_op (o_ne sc_str) (e_ca (c_repr (d := PyData.int) dp_int) (a_cons (e_numCmp (e_op o_ixL (e_var (getS (getS (getS get0)))) (e_var (getS (getS (getS (getS (getS get0))))))) (e_coe coe_num (e_op o_ixL (e_var (getS (getS (getS get0)))) (e_var (getS (getS (getS (getS (getS (getS get0)))))))))) a_nil)) (e_ca (c_repr (d := PyData.int) dp_int) (a_cons (e_var (getS (getS (getS (getS (getS (getS (getS get0)))))))) a_nil)))) (t_of (e_op (o_ne sc_bl) (e_op (o_numEq fun h => h.ty T.cN T.yN) (e_op o_ixL (e_var (getS (getS (getS get0)))) (e_var (getS (getS (getS (getS (getS get0))))))) (e_op o_ixL (e_var (getS (getS (getS get0)))) (e_var (getS (getS (getS (getS (getS (getS get0))))))))) (e_op (o_eq sc_int) (e_var (getS (getS (getS (getS (getS (getS (getS get0)))))))) e_int)))) (s_ret e_bl) s_nil)
  (s_if (t_or (t_of (e_op (o_eq sc_bl) (e_op (o_numNe fun h => h.ty T.cN T.yN) (e_op o_ixL (e_var (getS (getS (getS get0)))) (e_var (getS (getS (getS (getS (getS get0))))))) (e_op o_ixL (e_var (getS (getS (getS get0)))) (e_var (getS (getS (getS (getS (getS (getS get0))))))))) (e_op (o_eq sc_int) (e_var (getS (getS (getS (getS (getS (getS (getS get0)))))))) e_int))) (t_of (e_op (o_ne sc_int) (e_numInt (e_op o_num (e_op o_ixL (e_var (getS (getS (getS get0)))) (e_var (getS (getS (getS (getS (getS get0))))))) (e_coe coe_num (e_op o_ixL (e_var (getS (getS (getS get0)))) (e_var (getS (getS (getS (getS (getS (getS get0))))))))))) (e_var (getS (getS (getS (getS (getS (getS (getS get0))))))))))) (s_ret e_bl) s_nil))) (wk_fg (fg_keep (fg_keep (fg_keep (fg_keep (fg_keep (fg_keep (fg_un (fg_un (fg_keep (fg_keep (fg_keep (fg_keep (fg_keep fg_nil)))))))))))))))) (wk_fg (fg_keep (fg_keep (fg_keep (fg_keep (fg_keep (fg_un (fg_keep (fg_keep (fg_keep (fg_keep (fg_keep (fg_keep (fg_keep fg_nil))))))))))))))))
  (s_seq (s_asg (e_tup (a_cons (e_op o_ixL (e_var (getS (getS (getS get0)))) e_int) (a_cons (e_op (o_ii fun _ _ => rfl) (e_roll get0 e_int) e_int) a_nil)) (le_n 2)) (g_tup (gs_cons (g_name (putS (putS (putS (putS (putS (putS (putS (putS put0))))))))) (gs_cons (g_name (putS (putS (putS (putS (putS (putS (putS (putS (putS put0)))))))))) gs_nil)) rfl))
  (s_seq (s_asg (e_call (a_cons (e_op o_ixL (e_var (getS (getS get0))) e_int) (a_cons (e_tup (a_cons (e_var (getS (getS (getS (getS (getS (getS (getS (getS (getS get0)))))))))) (a_cons e_int (a_cons e_int (a_cons e_int a_nil)))) (le_n 4)) (a_cons (e_var (getS get0)) a_nil)))) (g_name (putS (putS (putS (putS (putS (putS (putS put0)))))))))
  (s_seq (s_if (t_or (t_of (e_op (o_ne sc_str) (e_ca (c_repr (d := PyData.int) dp_int) (a_cons (e_numCmp (e_var (getS (getS (getS (getS (getS (getS (getS (getS get0))))))))) (e_coe coe_int (e_var (getS (getS (getS (getS (getS (getS (getS (getS (getS get0)))))))))))) a_nil)) (e_ca (c_repr (d := PyData.int) dp_int) (a_cons (e_var (getS (getS (getS (getS (getS (getS (getS get0)))))))) a_nil)))) (t_of (e_op (o_ne sc_int) (e_numCmp (e_var (getS (getS (getS (getS (getS (getS (getS (getS get0))))))))) (e_coe coe_num (e_mkNum1 (e_var (getS (getS (getS (getS (getS (getS (getS (getS (getS get0))))))))))))) (e_var (getS (getS (getS (getS (getS (getS (getS get0))))))))))) (s_ret e_bl) s_nil)
  (s_seq (s_asg (e_numInt (e_var (getS (getS (getS (getS (getS (getS (getS (getS get0)))))))))) (g_name (putS (putS (putS (putS (putS (putS (putS (putS (putS (putS put0))))))))))))
  (s_seq (s_if (t_or (t_of (e_op (o_ib fun _ _ => rfl) (e_numCmp (e_var (getS (getS (getS (getS (getS (getS (getS (getS get0))))))))) (e_coe coe_int (e_var (getS (getS (getS (getS (getS (getS (getS (getS (getS (getS get0))))))))))))) e_int)) (t_or (t_of (e_op (o_ib fun _ _ => rfl) (e_numCmp (e_var (getS (getS (getS (getS (getS (getS (getS (getS get0))))))))) (e_coe coe_int (e_op (o_ii fun _ _ => rfl) (e_var (getS (getS (getS (getS (getS (getS (getS (getS (getS (getS get0))))))))))) e_int))) e_int)) (t_of (e_op (o_ne sc_int) (e_numCmp (e_var (getS (getS (getS (getS (getS (getS (getS (getS get0))))))))) (e_coe coe_int e_int)) (e_numInt (e_var (getS (getS (getS (getS (getS (getS (getS (getS get0)))))))))))))) (s_ret e_bl) s_nil)
  (s_seq (s_asg (SN.se (n_lst (hom_cons (hom_cons (hom_cons (hom_cons (hom_cons (hom_cons (hom_cons (hom_cons hom_nil)))))))) (a_cons (e_coe (odd_non O) e_non) (a_cons (e_coe (odd_int O) (e_var (getS (getS (getS (getS (getS (getS (getS (getS (getS get0))))))))))) (a_cons (e_coe (odd_bl O) e_bl) (a_cons (e_coe (odd_str O) e_str) (a_cons (e_coe (odd_tx O) (e_tup (a_cons (e_var (getS (getS (getS (getS (getS (getS (getS (getS get0))))))))) a_nil) (le_n 1))) (a_cons (e_coe (odd_lst O) (SN.se (n_lst (Ra := rInt) hom_nil a_nil (le_n 0)))) (a_cons (e_coe (odd_dict O) e_dnew) (a_cons (e_coe (odd_str O) (e_numStr (e_var (getS (getS (getS (getS (getS (getS (getS (getS get0))))))))))) a_nil)))))))) (le_n 8))) (g_name (putS (putS (putS (putS (putS (putS (putS (putS (putS (putS (putS put0)))))))))))))
  (s_ret (e_op o_eqNil (SN.se (n_lc (i_ls (e_var (getS (getS (getS (getS (getS (getS (getS (getS (getS (getS (getS get0))))))))))))) (gw_name (putS (putS (putS (putS (putS (putS (putS (putS (putS (putS (putS (putS put0))))))))))))) (t_or (t_of (e_op o_oddEq (e_var (getS (getS (getS (getS (getS (getS (getS (getS get0))))))))) (e_var (getS (getS (getS (getS (getS (getS (getS (getS (getS (getS (getS (getS get0))))))))))))))) (t_not (t_of (e_op o_oddNe (e_var (getS (getS (getS (getS (getS (getS (getS (getS get0))))))))) (e_var (getS (getS (getS (getS (getS (getS (getS (getS (getS (getS (getS (getS get0))))))))))))))))) (e_var (getS (getS (getS (getS (getS (getS (getS (getS (getS (getS (getS (getS get0))))))))))))))) (SN.se (n_lst (Ra := (rOdd K CN)) hom_nil a_nil (le_n 0))))))))))))))) ?_
  exact h
end
end PF2

set_option Elab.async false
set_option linter.all false
set_option maxRecDepth 100000
set_option maxHeartbeats 400000
set_option exponentiation.threshold 20000
namespace PF2
open PF PySem PySem.Spec PyProof.Rows L2 SlX
theorem w_sign {x y r : Int} {c : Nat} {Q : Int → Nat → Prop} {X : Er → Prop} (bx : Bd 4000 x) (by_ : Bd 4000 y) (br : Bd 10 r) (ir : y ≠ 0 → x * x ≠ y * y * r) (q : Q (sgnSum x y r) c) : (m__law_sign ((x, y, ()), r, ())).wp c Q X := by
  simp only [m__law_sign, b__law_sign, M.bind_wp, M.ret_wp, M.need_wp, M.the_wp, M.ifb_wp, M.anyOf_wp, M.still_wp, M.roll_wp, M.pick_wp, M.thn_wp, M.thn_nx, M.thn_rt, M.thn_bk, M.thn_ct, M.fin_wp, M.fin_rt, M.finN_wp, M.finN_rt, M.finN_nx, M.FK_nx, M.FK_ct, M.FK_bk, M.FK_rt, decide_eq_true_eq, if_true, if_false, Bool.false_eq_true, Bool.not_eq_true', decide_eq_false_iff_not, Bool.not_true, Bool.not_false, ite_not]
  have k : ∀ v, v = sgnSum x y r → Q v c := fun v e => e ▸ q
  have m1 : CMulX x x := bx.mulx bx (by decide)
  have m2 : CMulX y y := by_.mulx by_ (by decide)
  have m3 : CMulX (y * y) r := (by_.mul by_).mulx br (by decide)
  have ss : y ≠ 0 → sgnSum x y r = if 0 ≤ sgn x * sgn y then sgn y else sgn x * sgn (x * x - y * y * r) := fun c => by unfold sgnSum; rw [if_neg c]
  have s0 : sgnSum x 0 r = sgn x := by unfold sgnSum; rw [if_pos rfl]
  by_cases y0 : y = 0
  · subst y0
    rw [s0] at k
    rcases Int.lt_trichotomy x 0 with h | h | h
    · rw [sgn_neg h] at k
      simp [Int.ne_of_lt h, h, show ¬ 0 < x by omega]
      exact k _ rfl
    · subst h
      simp
      exact k _ rfl
    · rw [sgn_pos h] at k
      simp [show x ≠ 0 by omega, h, show ¬ x < 0 by omega]
      exact k _ rfl
  · rw [ss y0] at k
    have i0 := ir y0
    by_cases x0 : x = 0
    · subst x0
      rw [sgn_zero, Int.zero_mul, if_pos (Int.le_refl 0)] at k
      simp only [if_neg y0]
      simp
      refine k _ ?_
      unfold sgn b2
      by_cases h1 : 0 < y <;> by_cases h2 : y < 0 <;> simp [h1, h2]
    simp only [if_neg y0, if_neg x0]
    generalize hw : y * y * r = W at *
    generalize hz : x * x = Z at *
    rcases Int.lt_or_gt_of_ne x0 with hx | hx <;> rcases Int.lt_or_gt_of_ne y0 with hy | hy
    · rw [sgn_neg hx, sgn_neg hy] at k
      simp [show ¬ 0 < x by omega, show ¬ 0 < y by omega, hx]
      exact k _ (if_pos (by decide)).symm
    · rw [sgn_neg hx, sgn_pos hy, if_neg (by decide)] at k
      simp [show ¬ 0 < x by omega, hy]
      refine ⟨m1, m2, m3, ?_⟩
      by_cases h : W < Z
      · rw [if_pos h]; rw [sgn_pos (by omega)] at k; exact k _ (by decide)
      · rw [if_neg h]; rw [sgn_neg (by omega)] at k; exact k _ (by decide)
    · rw [sgn_pos hx, sgn_neg hy, if_neg (by decide)] at k
      simp [hx, show ¬ 0 < y by omega]
      refine ⟨m1, m2, m3, ?_⟩
      by_cases h : W < Z
      · rw [if_pos h]; rw [sgn_pos (by omega)] at k; exact k _ (by decide)
      · rw [if_neg h]; rw [sgn_neg (by omega)] at k; exact k _ (by decide)
    · rw [sgn_pos hx, sgn_pos hy] at k
      simp [hx, hy, show ¬ x < 0 by omega]
      exact k _ (if_pos (by decide)).symm
abbrev Q4 := Int × (Int × (Int × (Int × Unit)))
def qn (a : Q4) : Nm := ⟨a.1, a.2.1, a.2.2.1, a.2.2.2.1⟩
def nq (n : Nm) : Q4 := (n.t, n.p, n.r, n.b, ())
theorem w_beside {a b : Nm} {R : Int} {c : Nat} {Q : Int → Nat → Prop} {X : Er → Prop} (ba : B3 1000 a) (bb : B3 1000 b) (bR : Bd 10 R) (ir : ∀ u v : Int, v ≠ 0 → u * u ≠ v * v * R) (q : Q (besN a b R) c) : (m__law_beside (nq a, nq b, R, ())).wp c Q X := by
  simp only [m__law_beside, b__law_beside, nq, M.bind_wp, M.ret_wp, M.need_wp, M.the_wp, M.ifb_wp, M.anyOf_wp, M.still_wp, M.roll_wp, M.pick_wp, M.thn_wp, M.thn_nx, M.thn_rt, M.thn_bk, M.thn_ct, M.fin_wp, M.fin_rt, M.finN_wp, M.finN_rt, M.finN_nx, M.FK_nx, M.FK_ct, M.FK_bk, M.FK_rt, decide_eq_true_eq, if_true, if_false, Bool.false_eq_true, Bool.not_eq_true', decide_eq_false_iff_not, Bool.not_true, Bool.not_false, ite_not]
  have fin : ∀ x y : Nm, upN a = x → upN b = y → B3 1000 x → B3 1000 y → (CMulX x.t y.b ∧ CMulX y.t x.b ∧ CMulX x.p y.b ∧ CMulX y.p x.b ∧ (m__law_sign ((x.t * y.b - y.t * x.b, x.p * y.b - y.p * x.b, ()), R, ())).wp 0 (fun a x => Q a c) X) := fun x y e1 e2 b1 b2 => by
    refine ⟨b1.1.mulx b2.2.2 (by decide), b2.1.mulx b1.2.2 (by decide), b1.2.1.mulx b2.2.2 (by decide), b2.2.1.mulx b1.2.2 (by decide), ?_⟩
    refine w_sign ((Bd.sub (n := 2000) (m := 2001) (b1.1.mul b2.2.2) (b2.1.mul b1.2.2) rfl).mono (by decide)) ((Bd.sub (n := 2000) (m := 2001) (b1.2.1.mul b2.2.2) (b2.2.1.mul b1.2.2) rfl).mono (by decide)) bR (ir _ _) ?_
    unfold besN at q
    rw [e1, e2] at q
    exact q
  have na : B3 1000 ⟨-a.t, -a.p, a.r, -a.b⟩ := ⟨ba.1.neg, ba.2.1.neg, ba.2.2.neg⟩
  have nb : B3 1000 ⟨-b.t, -b.p, b.r, -b.b⟩ := ⟨bb.1.neg, bb.2.1.neg, bb.2.2.neg⟩
  by_cases h1 : a.b < 0 <;> by_cases h2 : b.b < 0 <;> simp only [h1, h2, if_true, if_false]
  · exact fin ⟨-a.t, -a.p, a.r, -a.b⟩ ⟨-b.t, -b.p, b.r, -b.b⟩ (if_pos h1) (if_pos h2) na nb
  · exact fin ⟨-a.t, -a.p, a.r, -a.b⟩ b (if_pos h1) (if_neg h2) na bb
  · exact fin a ⟨-b.t, -b.p, b.r, -b.b⟩ (if_neg h1) (if_pos h2) ba nb
  · exact fin a b (if_neg h1) (if_neg h2) ba bb
theorem w_mixed {xs : List Q4} {c : Nat} {Q : List Q4 → Nat → Prop} {X : Er → Prop} (hc : c + 100 < 2 ^ 60) (hl : xs.length ≤ 100) (q : ∀ ys, ys.Perm xs → Q ys (c + xs.length)) : (m__law_mixed (xs, ())).wp c Q X := by
  simp only [m__law_mixed, b__law_mixed, M.bind_wp, M.ret_wp, M.need_wp, M.the_wp, M.ifb_wp, M.anyOf_wp, M.still_wp, M.roll_wp, M.pick_wp, M.thn_wp, M.thn_nx, M.thn_rt, M.thn_bk, M.thn_ct, M.fin_wp, M.fin_rt, M.finN_wp, M.finN_rt, M.finN_nx, M.FK_nx, M.FK_ct, M.FK_bk, M.FK_rt, decide_eq_true_eq, if_true, if_false, Bool.false_eq_true, Bool.not_eq_true', decide_eq_false_iff_not, Bool.not_true, Bool.not_false, ite_not]
  refine ⟨by omega, ?_⟩
  refine M.forM_inv (fun i ρ d => ∃ ys zs, ρ.2.2.1 = ys ∧ ρ.2.2.2.1 = zs ∧ ys.length + i = xs.length ∧ zs.length = i ∧ (zs ++ ys).Perm xs ∧ d = c + i) ⟨xs, [], rfl, rfl, by omega, rfl, .refl _, by omega⟩ ?_ ?_
  · rintro i a ρ d hi ⟨ys, zs, e1, e2, l1, l2, pm, rfl⟩
    have hi' : i < xs.length := by
      have := (List.getElem?_eq_some_iff.mp hi).1
      rw [rng_len] at this
      omega
    simp only [M.bind_wp, M.ret_wp, M.need_wp, M.the_wp, M.ifb_wp, M.anyOf_wp, M.still_wp, M.roll_wp, M.pick_wp, M.thn_wp, M.thn_nx, M.thn_rt, M.thn_bk, M.thn_ct, M.fin_wp, M.fin_rt, M.finN_wp, M.finN_rt, M.finN_nx, M.FK_nx, M.FK_ct, M.FK_bk, M.FK_rt, decide_eq_true_eq, if_true, if_false, Bool.false_eq_true, Bool.not_eq_true', decide_eq_false_iff_not, Bool.not_true, Bool.not_false, ite_not, e1, e2]
    refine ⟨by omega, by omega, bd_le 100 (by omega) (by decide), fun r r0 r1 => ⟨⟨by omega, r0⟩, ?_⟩⟩
    have hj : r.toNat < ys.length := by omega
    refine ⟨ys[r.toNat], List.getElem?_eq_getElem hj, by rw [l2, sizeLine_eq]; omega, _, _, rfl, rfl, ?_, ?_, ?_, by omega⟩
    · rw [List.length_eraseIdx_of_lt hj]; omega
    · rw [List.length_append, l2]; rfl
    · rw [List.append_assoc]
      exact (List.Perm.append_left zs (perm_at ys r.toNat hj)).trans pm
  · rintro ρ d ⟨ys, zs, e1, e2, l1, l2, pm, rfl⟩
    have hz : (rng 0 (xs.length : Int)).length = xs.length := by rw [rng_len]; omega
    rw [hz] at l1 l2 ⊢
    have ye : ys = [] := List.length_eq_zero_iff.mp (by omega)
    rw [ye, List.append_nil] at pm
    simp only [M.bind_wp, M.ret_wp, M.need_wp, M.the_wp, M.ifb_wp, M.anyOf_wp, M.still_wp, M.roll_wp, M.pick_wp, M.thn_wp, M.thn_nx, M.thn_rt, M.thn_bk, M.thn_ct, M.fin_wp, M.fin_rt, M.finN_wp, M.finN_rt, M.finN_nx, M.FK_nx, M.FK_ct, M.FK_bk, M.FK_rt, decide_eq_true_eq, if_true, if_false, Bool.false_eq_true, Bool.not_eq_true', decide_eq_false_iff_not, Bool.not_true, Bool.not_false, ite_not, e2]
    exact q zs pm
/-- four integers drawn -/
structure Drawn (R : Int) (k : Nat) (n : Nm) : Prop where
  b0 : n.b ≠ 0
  r : n.r = R
  z : R = 0 → n.p = 0
  b3 : B3 k n
theorem w_parts {R : Int} {c : Nat} {Q : Q4 → Nat → Prop} {X : Er → Prop} (hc : c + 10 < 2 ^ 60) (q : ∀ n d, d ≤ c + 10 → Drawn R 101 n → Q (nq n) d) : (m__law_parts_drawn (R, ())).wp c Q X := by
  simp only [m__law_parts_drawn, b__law_parts_drawn, M.bind_wp, M.ret_wp, M.need_wp, M.the_wp, M.ifb_wp, M.anyOf_wp, M.still_wp, M.roll_wp, M.pick_wp, M.thn_wp, M.thn_nx, M.thn_rt, M.thn_bk, M.thn_ct, M.fin_wp, M.fin_rt, M.finN_wp, M.finN_rt, M.finN_nx, M.FK_nx, M.FK_ct, M.FK_bk, M.FK_rt, decide_eq_true_eq, if_true, if_false, Bool.false_eq_true, Bool.not_eq_true', decide_eq_false_iff_not, Bool.not_true, Bool.not_false, ite_not]
  refine ⟨⟨by decide, by decide, by decide⟩, ⟨by decide, by decide, by decide⟩, by omega, by decide, by decide, fun n hn => ?_⟩
  have hn' : 1 ≤ n ∧ n ≤ 10 ^ 30 := by
    simp only [List.mem_cons, List.mem_nil_iff, or_false] at hn
    rcases hn with rfl | rfl | rfl | rfl | rfl <;> decide
  have bn : Bd 100 n := bd_le (10 ^ 30) (by omega) (by decide)
  have two : Bd 10 2 := bd_sm (by decide) (by decide)
  refine ⟨two.mulx bn (by decide), by omega, by omega, bd_le (2 * 10 ^ 30 + 1) (by omega) (by decide), fun r r0 r1 => ?_⟩
  have b1 : Bd 101 (r - n) := bd_le (10 ^ 30) (by omega) (by decide)
  have fin : ∀ (p : Int) (d : Nat), d ≤ c + 5 → Bd 101 p → (R = 0 → p = 0) → d < 2 ^ 60 ∧ 0 < n ∧ Bd 9000 n ∧ ∀ r4, 0 ≤ r4 → r4 < n → d + 1 < 2 ^ 60 ∧ 0 < [1, 1, 2, 3, -4, 6, -1, 12, 1 + r4].length ∧ [1, 1, 2, 3, -4, 6, -1, 12, 1 + r4].length ≤ 1000 ∧ ∀ x ∈ [1, 1, 2, 3, -4, 6, -1, 12, 1 + r4], Q (r - n, p, R, x, ()) (d + 1 + 1) := fun p d hd bp zp => by
    refine ⟨by omega, by omega, bn.mono (by decide), fun r4 h0 h1 => ⟨by omega, Nat.zero_lt_succ _, by show 9 ≤ 1000; decide, fun b hb => ?_⟩⟩
    have hb' : b ≠ 0 ∧ b.natAbs ≤ 10 ^ 30 := by
      simp only [List.mem_cons, List.mem_nil_iff, or_false] at hb
      rcases hb with rfl | rfl | rfl | rfl | rfl | rfl | rfl | rfl | rfl
      · decide
      · decide
      · decide
      · decide
      · decide
      · decide
      · decide
      · decide
      · omega
    exact q ⟨r - n, p, R, b⟩ _ (by omega) ⟨hb'.1, rfl, zp, b1, bp, bd_le (10 ^ 30) hb'.2 (by decide)⟩
  by_cases R0 : R = 0
  · simp only [if_pos R0]
    exact fin 0 _ (by omega) (bd_sm (by decide) (by decide)) fun _ => rfl
  · simp only [if_neg R0]
    refine ⟨two.mulx bn (by decide), by omega, by omega, bd_le (2 * 10 ^ 30 + 1) (by omega) (by decide), fun r2 h0 h1 => ?_⟩
    exact fin (r2 - n) _ (by omega) (bd_le (10 ^ 30) (by omega) (by decide)) fun z => absurd z R0
theorem w_made {n : Nm} {c : Nat} {Q : Nm → Nat → Prop} {X : Er → Prop} (b0 : n.b ≠ 0) (ro : okRoot n.r n.p) (hb : Bd 9000 n.b) (q : Q (mkNm n.t n.p n.r n.b) c) : (m__law_made (nq n, ())).wp c Q X := by
  simp only [m__law_made, b__law_made, nq, M.bind_wp, M.ret_wp, M.need_wp, M.the_wp, M.ifb_wp, M.anyOf_wp, M.still_wp, M.roll_wp, M.pick_wp, M.thn_wp, M.thn_nx, M.thn_rt, M.thn_bk, M.thn_ct, M.fin_wp, M.fin_rt, M.finN_wp, M.finN_rt, M.finN_nx, M.FK_nx, M.FK_ct, M.FK_bk, M.FK_rt, decide_eq_true_eq, if_true, if_false, Bool.false_eq_true, Bool.not_eq_true', decide_eq_false_iff_not, Bool.not_true, Bool.not_false, ite_not]
  exact ⟨⟨b0, ro, hb⟩, q⟩
theorem w_near {R : Int} {c : Nat} {Q : Q4 → Nat → Prop} {X : Er → Prop} (hc : c + 10 < 2 ^ 60) (r2 : 2 ≤ R) (r9 : R ≤ 997) (q : ∀ n d, d ≤ c + 2 → Drawn 0 700 n → Q (nq n) d) : (m__law_near (R, ())).wp c Q X := by
  simp only [m__law_near, b__law_near, M.bind_wp, M.ret_wp, M.need_wp, M.the_wp, M.ifb_wp, M.anyOf_wp, M.still_wp, M.roll_wp, M.pick_wp, M.thn_wp, M.thn_nx, M.thn_rt, M.thn_bk, M.thn_ct, M.fin_wp, M.fin_rt, M.finN_wp, M.finN_rt, M.finN_nx, M.FK_nx, M.FK_ct, M.FK_bk, M.FK_rt, decide_eq_true_eq, if_true, if_false, Bool.false_eq_true, Bool.not_eq_true', decide_eq_false_iff_not, Bool.not_true, Bool.not_false, ite_not]
  have bR : Bd 10 R := bd_sm (by omega) (by decide)
  refine ⟨by decide, by rw [rng_len]; omega, ?_⟩
  refine M.lcM_filter (g := fun a => if a * a < R then some a else none) (fun a ha Q' q' => ?_) ?_
  · obtain ⟨a0, a1⟩ := rng_mem.mp ha
    have ba : Bd 10 a := bd_sm (by omega) (by decide)
    simp only [M.bind_wp, M.ret_wp, M.need_wp, M.the_wp, M.ifb_wp, M.anyOf_wp, M.still_wp, M.roll_wp, M.pick_wp, M.thn_wp, M.thn_nx, M.thn_rt, M.thn_bk, M.thn_ct, M.fin_wp, M.fin_rt, M.finN_wp, M.finN_rt, M.finN_nx, M.FK_nx, M.FK_ct, M.FK_bk, M.FK_rt, decide_eq_true_eq, if_true, if_false, Bool.false_eq_true, Bool.not_eq_true', decide_eq_false_iff_not, Bool.not_true, Bool.not_false, ite_not]
    refine ⟨ba.mulx ba (by decide), ?_⟩
    by_cases h : a * a < R
    · rw [if_pos h] at q' ⊢; exact q'
    · rw [if_neg h] at q' ⊢; exact q'
  have h0 : (0 : Int) ∈ List.filterMap (fun a => if a * a < R then some a else none) (rng 0 40) := by
    refine List.mem_filterMap.mpr ⟨0, rng_mem.mpr ⟨by decide, by decide⟩, ?_⟩
    rw [if_pos (by omega)]
  refine ⟨List.length_pos_of_mem h0, fun m ⟨hm, _⟩ => ?_⟩
  obtain ⟨a, ha, e⟩ := List.mem_filterMap.mp hm
  have hm' : 0 ≤ m ∧ m < 40 := by
    obtain ⟨a0, a1⟩ := rng_mem.mp ha
    by_cases h : a * a < R
    · rw [if_pos h] at e; cases e; exact ⟨a0, a1⟩
    · rw [if_neg h] at e; cases e
  refine ⟨by omega, by decide, bd_sm (by decide) (by decide), fun r h1 h5 => ⟨⟨by omega, by omega⟩, ?_⟩⟩
  have bl : (rng 0 (1 + r)).length ≤ 5 := by rw [rng_len]; omega
  refine M.forM_inv (fun i ρ d => d = c + 1 ∧ ρ.2.1 = R ∧ ∃ t b, ρ.2.2.1 = t ∧ ρ.2.2.2.1 = b ∧ 0 < t ∧ 0 < b ∧ Bd (17 * 2 ^ i - 11) t ∧ Bd (17 * 2 ^ i - 11) b) ⟨rfl, rfl, 1 + m, 1, rfl, rfl, by omega, by decide, bd_le 40 (by omega) (by decide), bd_le 1 (by decide) (by decide)⟩ ?_ ?_
  · rintro i a ρ d hi ⟨rfl, eR, t, b, e1, e2, t0, b0, bt, bb⟩
    have i4 : i ≤ 4 := by
      have := (List.getElem?_eq_some_iff.mp hi).1
      omega
    have k1 : 17 * 2 ^ i - 11 ≤ 261 := by
      have := Nat.pow_le_pow_right (show 0 < 2 by decide) i4
      omega
    have k2 : 17 * 2 ^ (i + 1) - 11 = (17 * 2 ^ i - 11) + (17 * 2 ^ i - 11) + 11 := by
      have := Nat.two_pow_pos i
      rw [Nat.pow_succ]; omega
    rw [k2]
    simp only [M.bind_wp, M.ret_wp, M.need_wp, M.the_wp, M.ifb_wp, M.anyOf_wp, M.still_wp, M.roll_wp, M.pick_wp, M.thn_wp, M.thn_nx, M.thn_rt, M.thn_bk, M.thn_ct, M.fin_wp, M.fin_rt, M.finN_wp, M.finN_rt, M.finN_nx, M.FK_nx, M.FK_ct, M.FK_bk, M.FK_rt, decide_eq_true_eq, if_true, if_false, Bool.false_eq_true, Bool.not_eq_true', decide_eq_false_iff_not, Bool.not_true, Bool.not_false, ite_not, eR, e1, e2]
    generalize 17 * 2 ^ i - 11 = k at *
    have two : Bd 10 2 := bd_sm (by decide) (by decide)
    refine ⟨bt.mulx bt (by omega), bR.mulx bb (by omega), (bR.mul bb).mulx bb (by omega), two.mulx bt (by omega), (two.mul bt).mulx bb (by omega), trivial, trivial, _, _, rfl, rfl, ?_, ?_, ?_, ?_⟩
    · have h1 := Int.mul_pos t0 t0
      have h2 := Int.mul_pos (Int.mul_pos (show 0 < R by omega) b0) b0
      omega
    · exact Int.mul_pos (Int.mul_pos (by decide) t0) b0
    · exact Bd.add (n := k + k + 10) (m := k + k + 11) ((bt.mul bt).mono (by omega)) (((bR.mul bb).mul bb).mono (by omega)) rfl
    · exact ((two.mul bt).mul bb).mono (by omega)
  · rintro ρ d ⟨rfl, eR, t, b, e1, e2, t0, b0, bt, bb⟩
    have k0 : 17 * 2 ^ (rng 0 (1 + r)).length - 11 ≤ 540 := by
      have := Nat.pow_le_pow_right (show 0 < 2 by decide) bl
      omega
    have bt' := bt.mono k0
    have bb' := bb.mono k0
    simp only [M.bind_wp, M.ret_wp, M.need_wp, M.the_wp, M.ifb_wp, M.anyOf_wp, M.still_wp, M.roll_wp, M.pick_wp, M.thn_wp, M.thn_nx, M.thn_rt, M.thn_bk, M.thn_ct, M.fin_wp, M.fin_rt, M.finN_wp, M.finN_rt, M.finN_nx, M.FK_nx, M.FK_ct, M.FK_bk, M.FK_rt, decide_eq_true_eq, if_true, if_false, Bool.false_eq_true, Bool.not_eq_true', decide_eq_false_iff_not, Bool.not_true, Bool.not_false, ite_not, eR, e1, e2]
    refine ⟨by omega, by decide, bd_sm (by decide) (by decide), fun s s0 s1 => ?_⟩
    by_cases hs : s = 0
    · simp only [if_pos hs]
      exact q ⟨t, 0, 0, b⟩ _ (by omega) ⟨show b ≠ 0 by omega, rfl, fun _ => rfl, bt'.mono (by decide), bd_sm (i := 0) (by decide) (by decide), bb'.mono (by decide)⟩
    · simp only [if_neg hs]
      refine ⟨bR.mulx bb' (by decide), ?_⟩
      exact q ⟨R * b, 0, 0, t⟩ _ (by omega) ⟨show t ≠ 0 by omega, rfl, fun _ => rfl, (bR.mul bb').mono (by decide), bd_sm (i := 0) (by decide) (by decide), bt'.mono (by decide)⟩
/-- a row drawn -/
structure Row9 (R : Int) (n : Nm) : Prop where
  k : RowK R n
  b3 : B3 900 n
theorem Drawn.row {R S : Int} {k : Nat} {n : Nm} (h : Drawn S k n) (hk : k ≤ 900) (hS : S = R ∨ S = 0) : Row9 R n ∧ B3 k n := ⟨⟨⟨h.b0, by rw [h.r]; exact hS, fun z => h.z (h.r.symm.trans z)⟩, h.b3.mono hk⟩, h.b3⟩
theorem w_row {R : Int} {c : Nat} {Q : List Q4 → Nat → Prop} {X : Er → Prop} (hc : c + 200 < 2 ^ 60) (r2 : 2 ≤ R) (r9 : R ≤ 997) (q : ∀ (ns : List Nm) (d : Nat), d ≤ c + 60 → ns.length = 7 → (∀ n ∈ ns, Row9 R n) → Q (ns.map nq) d) : (m__law_row (R, ())).wp c Q X := by
  simp only [m__law_row, b__law_row, M.bind_wp, M.ret_wp, M.need_wp, M.the_wp, M.ifb_wp, M.anyOf_wp, M.still_wp, M.roll_wp, M.pick_wp, M.thn_wp, M.thn_nx, M.thn_rt, M.thn_bk, M.thn_ct, M.fin_wp, M.fin_rt, M.finN_wp, M.finN_rt, M.finN_nx, M.FK_nx, M.FK_ct, M.FK_bk, M.FK_rt, decide_eq_true_eq, if_true, if_false, Bool.false_eq_true, Bool.not_eq_true', decide_eq_false_iff_not, Bool.not_true, Bool.not_false, ite_not]
  refine w_near (by omega) r2 r9 fun n1 d1 l1 o1 => ?_
  refine w_near (by omega) r2 r9 fun n2 d2 l2 o2 => ?_
  refine ⟨⟨by decide, by decide⟩, by rw [rng_len]; omega, ?_⟩
  refine M.lcM_inv (fun i ys d => d ≤ d2 + 11 * i ∧ ∃ ns : List Nm, ys = ns.map nq ∧ ns.length = i ∧ ∀ n ∈ ns, Row9 R n ∧ B3 700 n) ⟨by omega, [], rfl, rfl, fun _ h => nomatch h⟩ ?_ ?_
  · rintro i a ys d hi ⟨hd, ns, rfl, hn, rows⟩
    have i3 : i < 3 := by
      have := (List.getElem?_eq_some_iff.mp hi).1
      rw [rng_len] at this
      omega
    refine ⟨by omega, Nat.zero_lt_succ _, by show 3 ≤ 1000; decide, fun S hS => ?_⟩
    refine w_parts (by omega) fun n e he dr => ?_
    refine ⟨by omega, ns ++ [n], by simp, by rw [List.length_append, hn]; rfl, fun m hm => ?_⟩
    rcases List.mem_append.mp hm with hm | hm
    · exact rows m hm
    · obtain rfl := List.mem_singleton.mp hm
      refine (fun z : Row9 R m ∧ B3 101 m => (⟨z.1, z.2.mono (by decide)⟩ : Row9 R m ∧ B3 700 m)) (dr.row (by decide) ?_)
      simp only [List.mem_cons, List.mem_nil_iff, or_false] at hS
      rcases hS with h | h | h
      · exact .inl h
      · exact .inl h
      · exact .inr h
  rintro ys d3 ⟨hd, ns, rfl, hn, rows⟩
  have hl : (rng 0 3).length = 3 := by rw [rng_len]; rfl
  rw [hl] at hn hd
  match ns, hn with
  | [m1, m2, m3], _ =>
  have o3 := rows m1 (by simp)
  have o4 := rows m2 (by simp)
  have o5 := rows m3 (by simp)
  have o0 : Row9 R ⟨0, 1, R, 1⟩ ∧ B3 700 ⟨0, 1, R, 1⟩ := ⟨⟨⟨show (1 : Int) ≠ 0 by decide, .inl rfl, fun z => by dsimp only at z; omega⟩, bd_sm (i := 0) (by decide) (by decide), bd_sm (i := 1) (by decide) (by decide), bd_sm (i := 1) (by decide) (by decide)⟩, bd_sm (i := 0) (by decide) (by decide), bd_sm (i := 1) (by decide) (by decide), bd_sm (i := 1) (by decide) (by decide)⟩
  have o1' : Row9 R n1 ∧ B3 700 n1 := o1.row (by decide) (.inr rfl)
  have o2' : Row9 R n2 ∧ B3 700 n2 := o2.row (by decide) (.inr rfl)
  have hd3 : d3 ≤ c + 40 := by omega
  have all6 : ∀ n ∈ [⟨0, 1, R, 1⟩, n1, n2, m1, m2, m3], Row9 R n ∧ B3 700 n := fun n hn => by
    simp only [List.mem_cons, List.mem_nil_iff, or_false] at hn
    rcases hn with rfl | rfl | rfl | rfl | rfl | rfl <;> assumption
  clear o0 o1' o2' o3 o4 o5 o1 o2 rows
  have e6 : [(0, 1, R, 1, ()), nq n1, nq n2] ++ [m1, m2, m3].map nq = [⟨0, 1, R, 1⟩, n1, n2, m1, m2, m3].map nq := rfl
  rw [e6]
  generalize hL : ([⟨0, 1, R, 1⟩, n1, n2, m1, m2, m3] : List Nm) = L at *
  have lL : L.length = 6 := by rw [← hL]; rfl
  refine ⟨by rw [sizeLine_eq]; show 6 ≤ 16777216; omega, by omega, by decide, bd_sm (by decide) (by decide), fun r h0 h1 => ?_⟩
  obtain ⟨n, hn⟩ : ∃ n, L[r.toNat]? = some n := ⟨_, List.getElem?_eq_getElem (show r.toNat < L.length by omega)⟩
  have an := all6 n (List.mem_of_getElem? hn)
  refine ⟨nq n, ?_, ?_⟩
  · have := atI_nat (xs := L.map nq) (j := r.toNat) (v := nq n) (by rw [List.getElem?_map, hn]; rfl)
    rw [show r = ((r.toNat : Nat) : Int) by omega]
    exact this
  simp only [nq]
  refine ⟨⟨by decide, by decide, by decide⟩, by omega, Nat.zero_lt_succ _, by show 3 ≤ 1000; decide, fun f hf => ?_⟩
  have hf' : f ≠ 0 ∧ Bd 100 f := by
    simp only [List.mem_cons, List.mem_nil_iff, or_false] at hf
    rcases hf with rfl | rfl | rfl
    · exact ⟨by decide, bd_sm (by decide) (by decide)⟩
    · exact ⟨by decide, bd_sm (by decide) (by decide)⟩
    · exact ⟨by decide, bd_le (10 ^ 20) (by decide) (by decide)⟩
  have d6 : d3 + 1 + 1 ≤ c + 42 := by omega
  refine ⟨(an.2.1.mulx hf'.2 (by decide)), (an.2.2.1.mulx hf'.2 (by decide)), (an.2.2.2.mulx hf'.2 (by decide)), ?_⟩
  have o7 : Row9 R ⟨n.t * f, n.p * f, n.r, n.b * f⟩ := ⟨⟨Int.mul_ne_zero an.1.k.b0 hf'.1, an.1.k.r, fun z => by show n.p * f = 0; rw [an.1.k.z z, Int.zero_mul]⟩, (an.2.1.mul hf'.2).mono (by decide), (an.2.2.1.mul hf'.2).mono (by decide), (an.2.2.2.mul hf'.2).mono (by decide)⟩
  refine ⟨by rw [List.length_map, lL, sizeLine_eq]; show 7 ≤ 16777216; omega, ?_⟩
  have e7 : L.map nq ++ [(n.t * f, n.p * f, n.r, n.b * f, ())] = (L ++ [(⟨n.t * f, n.p * f, n.r, n.b * f⟩ : Nm)]).map nq := by rw [List.map_append]; rfl
  rw [e7]
  have l7 : (L ++ [(⟨n.t * f, n.p * f, n.r, n.b * f⟩ : Nm)]).length = 7 := by rw [List.length_append, lL]; rfl
  have all7 : ∀ m ∈ L ++ [⟨n.t * f, n.p * f, n.r, n.b * f⟩], Row9 R m := fun m hm => by
    rcases List.mem_append.mp hm with hm | hm
    · exact (all6 m hm).1
    · rw [List.mem_singleton.mp hm]; exact o7
  generalize (L ++ [⟨n.t * f, n.p * f, n.r, n.b * f⟩] : List Nm) = L7 at *
  refine w_mixed (by omega) (by rw [List.length_map, l7]; decide) fun ys pm => ?_
  obtain ⟨ns, rfl, pm'⟩ : ∃ ns : List Nm, ys = ns.map nq ∧ ns.Perm L7 := by
    refine ⟨ys.map qn, ?_, ?_⟩
    · rw [List.map_map]
      rw [show (nq ∘ qn) = (id : Q4 → Q4) from funext fun ⟨_, _, _, _, _⟩ => rfl, List.map_id]
    · have := pm.map qn
      rw [List.map_map, show (qn ∘ nq) = (id : Nm → Nm) from funext fun ⟨_, _, _, _⟩ => rfl, List.map_id] at this
      exact this
  refine q ns _ ?_ (by rw [pm'.length_eq, l7]) fun m hm => all7 m (pm'.mem_iff.mp hm)
  rw [List.length_map, l7]; omega
theorem Row9.gd {R : Int} {n : Nm} (hR : okR R) (h : Row9 R n) : Okn R (nrmN n) ∧ Gd 1000 (nrmN n) ∧ B3 900 (nrmN n) := by
  have k := h.k.okn
  have b := mk_bd (r := n.r) h.b3.1 h.b3.2.1 h.b3.2.2
  exact ⟨k, k.gd hR (b.1.mono (by decide)) (b.2.1.mono (by decide)) (b.2.2.mono (by decide)), b⟩
theorem gd_up {k m : Nat} {n : Nm} (h : Gd k n) (l : k ≤ m) : Gd m n := ⟨h.b0, h.t.mono l, h.p.mono l, h.b.mono l, h.r, h.r0⟩
theorem rep_ok {i : Int} (h : i.natAbs ≤ 1) : (PyData.int i).showable = true ∧ (PyData.int i).hasDict = false ∧ (PyData.int i).shown.length ≤ sizeLine ∧ (PyData.int i).depth ≤ 64 := by
  have b : Bd 1000 i := bd_le 1 h (by decide)
  refine ⟨decide_eq_true (Nat.lt_trans (bd_log b (by decide)) (by decide)), rfl, ?_, by simp [PyData.depth]⟩
  have := int_short b
  rw [sizeLine_eq]; omega
theorem w_right {c : Nat} {Q : Bool → Nat → Prop} {X : Er → Prop} (hc : c + 1000 < 2 ^ 60) (q : ∀ d, Q true d) : (m__law_right ()).wp c Q X := by
  simp only [m__law_right, b__law_right, M.bind_wp, M.ret_wp, M.need_wp, M.the_wp, M.ifb_wp, M.anyOf_wp, M.still_wp, M.roll_wp, M.pick_wp, M.thn_wp, M.thn_nx, M.thn_rt, M.thn_bk, M.thn_ct, M.fin_wp, M.fin_rt, M.finN_wp, M.finN_rt, M.finN_nx, M.FK_nx, M.FK_ct, M.FK_bk, M.FK_rt, decide_eq_true_eq, if_true, if_false, Bool.false_eq_true, Bool.not_eq_true', decide_eq_false_iff_not, Bool.not_true, Bool.not_false, ite_not]
  refine ⟨by omega, Nat.zero_lt_succ _, by show 6 ≤ 1000; decide, fun R hR => ?_⟩
  have hR' : okR R ∧ 2 ≤ R ∧ R ≤ 997 := by
    simp only [List.mem_cons, List.mem_nil_iff, or_false] at hR
    rcases hR with rfl | rfl | rfl | rfl | rfl | rfl <;> exact ⟨.inr (by decide +kernel), by decide, by decide⟩
  obtain ⟨kR, r2, r9⟩ := hR'
  refine w_row (by omega) r2 r9 fun ns d hd hl rows => ?_
  refine ⟨by rw [List.length_map]; omega, ?_⟩
  refine M.lcM_map (g := fun a : Q4 => nrmN (qn a)) (fun a ha Q' q' => ?_) ?_
  · obtain ⟨n, hn, rfl⟩ := List.mem_map.mp ha
    have o := rows n hn
    simp only [M.bind_wp, M.ret_wp, M.need_wp, M.the_wp, M.ifb_wp, M.anyOf_wp, M.still_wp, M.roll_wp, M.pick_wp, M.thn_wp, M.thn_nx, M.thn_rt, M.thn_bk, M.thn_ct, M.fin_wp, M.fin_rt, M.finN_wp, M.finN_rt, M.finN_nx, M.FK_nx, M.FK_ct, M.FK_bk, M.FK_rt, decide_eq_true_eq, if_true, if_false, Bool.false_eq_true, Bool.not_eq_true', decide_eq_false_iff_not, Bool.not_true, Bool.not_false, ite_not]
    exact w_made o.k.b0 (o.k.ok kR) (o.b3.2.2.mono (by decide)) q'
  have hN : (ns.map nq).map (fun a : Q4 => nrmN (qn a)) = ns.map nrmN := by rw [List.map_map]; rfl
  rw [hN]
  have ir : ∀ u v : Int, v ≠ 0 → u * u ≠ v * v * R := fun u v v0 => irr kR (by omega) v0
  have bR : Bd 10 R := okR_bd kR
  have b7 : -2 ^ 62 ≤ ((List.map nq ns).length : Int) ∧ ((List.map nq ns).length : Int) < 2 ^ 62 := by rw [List.length_map, hl]; decide
  have at1 : ∀ {a : Int}, 0 ≤ a → a < ((List.map nq ns).length : Int) → ∃ x ∈ ns, atI (ns.map nq) a = some (nq x) ∧ atI (ns.map nrmN) a = some (nrmN x) := fun {a} h0 h1 => by
    have ha : a.toNat < ns.length := by rw [List.length_map] at h1; omega
    refine ⟨ns[a.toNat], List.getElem_mem ha, ?_, ?_⟩
    · have := atI_nat (xs := ns.map nq) (j := a.toNat) (v := nq ns[a.toNat]) (by rw [List.getElem?_map, List.getElem?_eq_getElem ha]; rfl)
      rwa [show ((a.toNat : Nat) : Int) = a by omega] at this
    · have := atI_nat (xs := ns.map nrmN) (j := a.toNat) (v := nrmN ns[a.toNat]) (by rw [List.getElem?_map, List.getElem?_eq_getElem ha]; rfl)
      rwa [show ((a.toNat : Nat) : Int) = a by omega] at this
  refine ⟨b7, ?_⟩
  refine M.forM_inv (fun i ρ e => e = d ∧ ρ.2.1 = R ∧ ρ.2.2.1 = ns.map nq ∧ ρ.2.2.2.1 = ns.map nrmN) ⟨rfl, rfl, rfl, rfl⟩ ?_ ?_
  · rintro i a ρ e hi ⟨rfl, e1, e2, e3⟩
    obtain ⟨a0, a1⟩ := rng_mem.mp (List.mem_of_getElem? hi)
    obtain ⟨x, hx, gx1, gx2⟩ := at1 a0 a1
    simp only [M.bind_wp, M.ret_wp, M.need_wp, M.the_wp, M.ifb_wp, M.anyOf_wp, M.still_wp, M.roll_wp, M.pick_wp, M.thn_wp, M.thn_nx, M.thn_rt, M.thn_bk, M.thn_ct, M.fin_wp, M.fin_rt, M.finN_wp, M.finN_rt, M.finN_nx, M.FK_nx, M.FK_ct, M.FK_bk, M.FK_rt, decide_eq_true_eq, if_true, if_false, Bool.false_eq_true, Bool.not_eq_true', decide_eq_false_iff_not, Bool.not_true, Bool.not_false, ite_not, e1, e2, e3]
    refine ⟨b7, ?_⟩
    refine M.forM_inv (fun j ρ e' => e' = e ∧ ρ.2.1 = R ∧ ρ.2.2.1 = ns.map nq ∧ ρ.2.2.2.1 = ns.map nrmN ∧ ρ.2.2.2.2.2.1 = a) ⟨rfl, rfl, rfl, rfl, rfl⟩ ?_ ?_
    · rintro j b ρ e' hj ⟨rfl, f1, f2, f3, f4⟩
      obtain ⟨b0, b1⟩ := rng_mem.mp (List.mem_of_getElem? hj)
      obtain ⟨y, hy, gy1, gy2⟩ := at1 b0 b1
      have ox := rows x hx
      have oy := rows y hy
      obtain ⟨kx, gx, bx⟩ := ox.gd kR
      obtain ⟨ky, gy, by_⟩ := oy.gd kR
      simp only [M.bind_wp, M.ret_wp, M.need_wp, M.the_wp, M.ifb_wp, M.anyOf_wp, M.still_wp, M.roll_wp, M.pick_wp, M.thn_wp, M.thn_nx, M.thn_rt, M.thn_bk, M.thn_ct, M.fin_wp, M.fin_rt, M.finN_wp, M.finN_rt, M.finN_nx, M.FK_nx, M.FK_ct, M.FK_bk, M.FK_rt, decide_eq_true_eq, if_true, if_false, Bool.false_eq_true, Bool.not_eq_true', decide_eq_false_iff_not, Bool.not_true, Bool.not_false, ite_not, f1, f2, f3, f4, gx1, gy1, gx2, gy2, Option.some.injEq, exists_eq_left']
      refine w_beside (ox.b3.mono (by decide)) (oy.b3.mono (by decide)) bR ir ?_
      have hb := bes_cmp ox.k oy.k
      have he := cmp_eq0 kx ky kR
      have hs := sub_sign kx ky
      have sa := sgnSum_abs ((nrmN x).t * (nrmN y).b - (nrmN y).t * (nrmN x).b) ((nrmN x).p * (nrmN y).b - (nrmN y).p * (nrmN x).b) (cRoot (nrmN x) (nrmN y))
      replace sa : (cmpN (nrmN x) (nrmN y)).natAbs ≤ 1 := sa
      have sg : Gd 3800 (subN (nrmN x) (nrmN y)) := by
        have := bx.sub by_
        exact (kx.subk ky).gd kR (this.1.mono (by decide)) (this.2.1.mono (by decide)) (this.2.2.mono (by decide))
      have tw : Two (nrmN x) (nrmN y) := ⟨kx.cm ky, gx, gy⟩
      rw [hb]
      simp only [M.bind_wp, M.ret_wp, M.need_wp, M.the_wp, M.ifb_wp, M.anyOf_wp, M.still_wp, M.roll_wp, M.pick_wp, M.thn_wp, M.thn_nx, M.thn_rt, M.thn_bk, M.thn_ct, M.fin_wp, M.fin_rt, M.finN_wp, M.finN_rt, M.finN_nx, M.FK_nx, M.FK_ct, M.FK_bk, M.FK_rt, decide_eq_true_eq, if_true, if_false, Bool.false_eq_true, Bool.not_eq_true', decide_eq_false_iff_not, Bool.not_true, Bool.not_false, ite_not, id]
      have d1 : decide (nrmN x = nrmN y) = decide (cmpN (nrmN x) (nrmN y) = 0) := by simp [he]
      have d2 : ¬ ((!decide (nrmN x = nrmN y)) = decide (cmpN (nrmN x) (nrmN y) = 0)) := by rw [d1]; cases decide (cmpN (nrmN x) (nrmN y) = 0) <;> decide
      refine ⟨tw, rep_ok sa, rep_ok sa, ?_⟩
      rw [if_pos d1, if_neg d2]
      refine ⟨⟨tw, trivial⟩, sg, ?_⟩
      rw [if_pos hs]
      exact ⟨trivial, trivial, trivial, trivial, trivial⟩
    · rintro ρ d' ⟨rfl, f1, f2, f3, f4⟩
      simp only [M.bind_wp, M.ret_wp, M.need_wp, M.the_wp, M.ifb_wp, M.anyOf_wp, M.still_wp, M.roll_wp, M.pick_wp, M.thn_wp, M.thn_nx, M.thn_rt, M.thn_bk, M.thn_ct, M.fin_wp, M.fin_rt, M.finN_wp, M.finN_rt, M.finN_nx, M.FK_nx, M.FK_ct, M.FK_bk, M.FK_rt, decide_eq_true_eq, if_true, if_false, Bool.false_eq_true, Bool.not_eq_true', decide_eq_false_iff_not, Bool.not_true, Bool.not_false, ite_not, f1, f2, f3]
      exact ⟨trivial, trivial, trivial, trivial⟩
  rintro ρ d' ⟨rfl, f1, f2, f3⟩
  obtain ⟨x, hx, gx1, gx2⟩ := at1 (a := 0) (by decide) (by rw [List.length_map, hl]; decide)
  have ox := rows x hx
  obtain ⟨kx, gx, bx⟩ := ox.gd kR
  simp only [M.bind_wp, M.ret_wp, M.need_wp, M.the_wp, M.ifb_wp, M.anyOf_wp, M.still_wp, M.roll_wp, M.pick_wp, M.thn_wp, M.thn_nx, M.thn_rt, M.thn_bk, M.thn_ct, M.fin_wp, M.fin_rt, M.finN_wp, M.finN_rt, M.finN_nx, M.FK_nx, M.FK_ct, M.FK_bk, M.FK_rt, decide_eq_true_eq, if_true, if_false, Bool.false_eq_true, Bool.not_eq_true', decide_eq_false_iff_not, Bool.not_true, Bool.not_false, ite_not, f1, f2, f3, gx1, gx2, Option.some.injEq, exists_eq_left']
  refine ⟨by omega, by decide, bd_sm (by decide) (by decide), fun r h0 h7 => ?_⟩
  generalize hw : r - 3 = w
  have wb : w.natAbs ≤ 3 := by omega
  have okI : ∀ i : Int, i.natAbs < 2 ^ 990 → RowK R ⟨i, 0, 0, 1⟩ ∧ B3 1000 ⟨i, 0, 0, 1⟩ ∧ nrmN ⟨i, 0, 0, 1⟩ = mkNm i 0 0 1 ∧ mkNm i 0 0 1 = ⟨i, 0, 0, 1⟩ := fun i hi =>
    ⟨⟨show (1 : Int) ≠ 0 by decide, .inr rfl, fun _ => rfl⟩, ⟨(show Bd 990 i from hi).mono (by decide), bd_sm (i := 0) (by decide) (by decide), bd_sm (i := 1) (by decide) (by decide)⟩, rfl, mk_int_bd i⟩
  have oI : ∀ i : Int, i.natAbs < 2 ^ 990 → Okn R (mkNm i 0 0 1) ∧ Two (nrmN x) (mkNm i 0 0 1) := fun i hi => by
    obtain ⟨h1, h2, h3, h4⟩ := okI i hi
    have k := h1.okn
    rw [h3] at k
    refine ⟨k, kx.cm k, gx, k.gd kR ?_ ?_ ?_⟩ <;> rw [h4]
    · exact h2.1
    · exact h2.2.1
    · exact h2.2.2
  have w5 : w.natAbs < 2 ^ 990 := Nat.lt_of_le_of_lt wb (by decide)
  have ow := okI w w5
  refine w_beside (b := ⟨w, 0, 0, 1⟩) (ox.b3.mono (by decide)) ow.2.1 bR ir ?_
  have hb := bes_cmp ox.k ow.1
  rw [ow.2.2.1] at hb
  rw [hb]
  simp only [M.bind_wp, M.ret_wp, M.need_wp, M.the_wp, M.ifb_wp, M.anyOf_wp, M.still_wp, M.roll_wp, M.pick_wp, M.thn_wp, M.thn_nx, M.thn_rt, M.thn_bk, M.thn_ct, M.fin_wp, M.fin_rt, M.finN_wp, M.finN_rt, M.finN_nx, M.FK_nx, M.FK_ct, M.FK_bk, M.FK_rt, decide_eq_true_eq, if_true, if_false, Bool.false_eq_true, Bool.not_eq_true', decide_eq_false_iff_not, Bool.not_true, Bool.not_false, ite_not, id]
  have sa : (cmpN (nrmN x) (mkNm w 0 0 1)).natAbs ≤ 1 := sgnSum_abs _ _ _
  have fb := floor_bd9 kx kR bx
  obtain ⟨p1, p2⟩ := kx.floor kR
  have ci : ∀ i : Int, i.natAbs < 2 ^ 990 → cmpN (nrmN x) (mkNm i 0 0 1) = sgnSum ((nrmN x).t - i * (nrmN x).b) (nrmN x).p (nrmN x).r := fun i hi => by
    rw [(okI i hi).2.2.2]
    exact cmp_int _ _
  generalize floorN (nrmN x).t (nrmN x).p (nrmN x).r (nrmN x).b = G at *
  have g1 : G.natAbs < 2 ^ 990 := Nat.lt_of_lt_of_le fb (Nat.pow_le_pow_right (by decide) (by decide))
  have g2 : (G + 1).natAbs < 2 ^ 990 := by
    have := Nat.pow_lt_pow_right (a := 2) (by decide) (show 950 < 951 by decide)
    have e : 2 ^ 951 ≤ 2 ^ 990 := Nat.pow_le_pow_right (by decide) (by decide)
    have fb' : G.natAbs < 2 ^ 950 := fb
    refine Nat.lt_of_lt_of_le ?_ e
    generalize 2 ^ 950 = u at *
    generalize 2 ^ 951 = v at *
    omega
  refine ⟨(oI w w5).2, rep_ok sa, rep_ok sa, (oI w w5).2, gd_up gx (by decide), (oI G g1).2, ?_⟩
  rw [ci G g1, if_neg (by omega)]
  refine ⟨(oI (G + 1) g2).2, ?_⟩
  have e1 : (nrmN x).t - (G + 1) * (nrmN x).b = (nrmN x).t - G * (nrmN x).b - (nrmN x).b := by grind
  rw [ci (G + 1) g2, e1, if_neg (by omega)]
  have z0 : (0 : Int).natAbs < 2 ^ 990 := by show 0 < 2 ^ 990; exact Nat.two_pow_pos _
  refine ⟨(oI 0 z0).2, gd_up gx (by decide), ?_⟩
  rw [ci 0 z0, Int.zero_mul, Int.sub_zero, if_pos rfl]
  refine ⟨gd_up gx (by decide), by show 8 ≤ 1000000; omega, ?_⟩
  refine M.lcM_filter (g := fun _ => none) (fun a _ Q' q' => ?_) ⟨⟨rfl, trivial⟩, q _⟩
  simp only [M.bind_wp, M.ret_wp, M.need_wp, M.the_wp, M.ifb_wp, M.anyOf_wp, M.still_wp, M.roll_wp, M.pick_wp, M.thn_wp, M.thn_nx, M.thn_rt, M.thn_bk, M.thn_ct, M.fin_wp, M.fin_rt, M.finN_wp, M.finN_rt, M.finN_nx, M.FK_nx, M.FK_ct, M.FK_bk, M.FK_rt, decide_eq_true_eq, if_true, if_false, Bool.false_eq_true, Bool.not_eq_true', decide_eq_false_iff_not, Bool.not_true, Bool.not_false, ite_not]
  exact q'
end PF2

set_option Elab.async false
set_option linter.all false
set_option maxRecDepth 100000
set_option maxHeartbeats 1000000
set_option exponentiation.threshold 20000
namespace PF2
open PF PySem PySem.Spec PyProof.Rows L2 SlX
/-- the class x at C, called with n values and these keywords; gV: with the defaults that lack -/
structure GMKg (P : Program) (w : World) (K : PySem.W.Frag) (mg : Str → Option Value) (base : Heap) (x : Str) (C : Addr) (k n : Nat) (ks : List Str) (gV : List V → List V → List V) (sp : Sp) : Prop where
  ex : ∃ f fd ps g, mg x = some (.ref C) ∧ Mk K C f ∧ KBn K fd ps (n + 1) ks g gV ∧ FnOk P w K mg base CX0 k f fd ps sp
theorem pe_mkg {X : Cx} {k n : Nat} {ks : List Str} {sp : Sp} {x : Str} {C : Addr} {gV : List V → List V → List V} {p pos : Pos} {e : Expr} {es : List Expr} {kws : List Keyword} {t tk : TA} (G : GMKg X.prog X.w X.K X.mg X.base x C k n ks gV sp) (hr : Room (k + 1) X.A) (ha : PA X (e :: es) t) (hkw : PK X kws tk) (gl : Gl X x := by rfl)
    (hall : (backToKw pos (keywordEach kws X.env)).all (·.1.isSome) = true := by rfl) (hks : (backToKw pos (keywordEach kws X.env)).filterMap (·.1) = ks := by rfl)
    (hdb : (x == ("__debug__" : Str)) = false := by decide) (he : starEach (e :: es) X.env = (false, eval e X.env) :: starEach es X.env := by rfl)
    (hpl : ((backTo pos (starEach (e :: es) X.env)).any (·.1) || (backToKw pos (keywordEach kws X.env)).any (·.1.isNone)) = false := by rfl) : PE X (.Call (.Name x p) (e :: es) kws pos) (tMakeN C n ks.length sp gV E0 t tk) := by
  obtain ⟨f, fd, ps, g, h1, h2, h3, h4⟩ := G.ex
  exact pe_makeN h2 h4 hr gl h1 h3 pass0 ha hkw hall hks hdb he hpl
def spLaw (K : PySem.W.Frag) : Sp := fun vs H Q _ => ∃ (a : Addr) (ns : List Int), vs = [.ref a] ∧ SqL K H a (ns.map V.int) ∧ ns.length ≤ 100 ∧ ∀ H', Q (.bl true) H'
section
variable {P : Program} {w : World} {K : PySem.W.Frag} {mg : Str → Option Value} {base : Heap} {f CN CF : Addr} {fd : FuncData}
theorem root_made {m : Nat} {σ : L2.St} {H : Hp} {Q : VK} (hm : 1 = m) (q : ∀ v H', Same H H' → At4 CN H' v (mkNm 0 1 2 1) → Q v H') :
    tMakeN CN 2 m (spNumI CN CF) (fun vs zs => vs ++ zs ++ [V.int 1]) E0 (tCons (tC (V.int 0)) (tCons (tC (V.int 1)) tNil)) (tCons (tC (V.int 2)) tNil) σ H Q :=
  ⟨rfl, hm, num_made (.inr ⟨0, 1, 2, 1, rfl, by decide, .inr (by decide +kernel), bd_sm (by decide) (by decide), rfl⟩) q⟩
theorem frac_made {m : Nat} {σ : L2.St} {H : Hp} {Q : VK} {i j : Int} (hm : 1 = m) (j0 : j ≠ 0) (bj : Bd 9000 j) (q : ∀ v H', Same H H' → At4 CN H' v (mkNm i 0 0 j) → Q v H') :
    tMakeN CN 1 m (spNumI CN CF) (fun vs zs => vs ++ [V.int 0] ++ [V.int 0] ++ zs) E0 (tCons (tC (V.int i)) tNil) (tCons (tC (V.int j)) tNil) σ H Q :=
  ⟨rfl, hm, num_made (.inr ⟨i, 0, 0, j, rfl, j0, .inl ⟨rfl, rfl⟩, bj, rfl⟩) q⟩
theorem cmp2 {H : Hp} {x y : V} {a b : Nm} {Q : VK} (hx : At4 CN H x a) (hy : At4 CN H y b) (t : Two a b) (q : ∀ H', Same H H' → Q (.int (cmpN a b)) H') : spCmp CN [x, y] H Q E0 := ⟨x, y, a, b, rfl, hx, .inl hy, t.1, t.2.1, t.2.2, q⟩
theorem sc_law : FnScope ["_law_script", "_law_spot", "_law_side"] ["_law_script"] (defScope (topS 41)) := ⟨rfl, rfl, rfl, by decide +kernel, rfl, by decide +kernel, by decide +kernel⟩
theorem ok_law (F : Fun K "law" "law" (topS 41) f fd) (bn : Binds K fd ["_law_script"] []) (fr : Free mg) (T : NTxt K mg CN CF) (G__law_dice : GD P w K mg base "_law_dice" 2 (spDice K)) (G__law_right : GG P w K mg base "_law_right" 11 1 (spOfD aNil rBl m__law_right)) (G_Number2root : GMKg P w K mg base "Number" CN 6 2 ["root"] (fun vs zs => vs ++ zs ++ [V.int 1]) (spNumI CN CF)) (G_Number1bottom : GMKg P w K mg base "Number" CN 6 1 ["bottom"] (fun vs zs => vs ++ [V.int 0] ++ [V.int 0] ++ zs) (spNumI CN CF))
    (M_compared : GMe P w K mg base CN "compared" 10 (spCmp CN)) :
    FnG P w K mg base 23 f 1 (spLaw K) := by
  refine PF.Fun.okG F sc_law bn (fun cdv A outer s H vs Q hgd hr h => ⟨_, (pss_cons (ps_for PassesOwn.never rfl (pi_range1 (by rfl) fr.b_range (pa_cons (pe_callB (call_max2 rfl) (by rfl) fr.b_max (by decide +kernel) (pa_cons pe_int (pa_cons (pe_callB (call_min2 rfl) (by rfl) fr.b_min (by decide +kernel) (pa_cons pe_int (pa_cons (pe_callB call_len (by rfl) fr.b_len (by decide +kernel) (pa_cons (pv 0) pa_nil)) pa_nil))) pa_nil))) pa_nil)) (pg_name (i := 1) sc_law.nd rfl (by first | exact Or.inl rfl | exact Or.inr rfl)) (pss_one (ps_if (pt_not (pt_val (pe_gd G__law_right hgd (hr.mono (by decide)) (pa_cons (pe_c1 G__law_dice (hr.mono (by decide)) (pa_cons (pv 0) (pa_cons (pv 1) pa_nil))) pa_nil) (by rfl)))) (pss_one (ps_ret pe_bl)) pss_nil)))
  (pss_cons (ps_set (i := 2) sc_law.nd rfl (by first | exact Or.inl rfl | exact Or.inr rfl) (pe_mkg G_Number2root (hr.mono (by decide)) (pa_cons pe_int (pa_cons pe_int pa_nil)) (pk_cons pe_int pk_nil)))
  (pss_one (ps_ret (pe_and (pe_cmpR op_eq (pe_me T.cN M_compared (hr.mono (by decide)) (pv 2) (pa_cons (pe_mkg G_Number1bottom (hr.mono (by decide)) (pa_cons pe_int pa_nil) (pk_cons pe_int pk_nil)) pa_nil)) (pe_un un_neg pe_int) (nomark _)) (pe_one (pe_cmpR op_eq (pe_me T.cN M_compared (hr.mono (by decide)) (pv 2) (pa_cons (pe_mkg G_Number1bottom (hr.mono (by decide)) (pa_cons pe_int pa_nil) (pk_cons pe_int pk_nil)) pa_nil)) pe_int (nomark _)))))))), ?_⟩)
  obtain ⟨a, ns, rfl, hS, hl, q⟩ := h
  have sqb : ∀ {H' H2 H3 : Hp} {p : Addr}, SqL K H' a (ns.map V.int) → H' p = none → Same H' H2 → SameB p H2 H3 → SqL K H3 a (ns.map V.int) := fun {H' H2 H3 p} h n s2 s3 => by
    rcases h with h | h
    · rcases h with h | ⟨o, h⟩
      · exact .inl (.inl (s3 _ _ (ne_of_none h n) (s2 _ _ h)))
      · exact .inl (.inr ⟨o, s3 _ _ (ne_of_none h n) (s2 _ _ h)⟩)
    · exact .inr h
  have ln : (ns.map V.int).length = ns.length := List.length_map _
  refine ⟨_, rfl, _, (ns.map V.int).length, rfl, .inl ⟨_, hS, rfl⟩, _, _, rfl, _, _, rfl, _, rfl, ?_, ?_, ?_⟩
  · split <;> omega
  · have : (2 : Int) ^ 62 = 4611686018427387904 := by decide
    split
    · split <;> omega
    · omega
  generalize hj : (if (if ((ns.map V.int).length : Int) < 5 then ((ns.map V.int).length : Int) else 5) > 1 then (if ((ns.map V.int).length : Int) < 5 then ((ns.map V.int).length : Int) else 5) else 1) = j
  have j5 : j ≤ 5 := by
    rw [← hj]
    split
    · split <;> omega
    · omega
  refine for_range (lo := 0) (fun i σ H' => ∃ o2 o3, σ = [some (.ref a), o2, o3] ∧ SqL K H' a (ns.map V.int)) ⟨none, none, rfl, hS⟩ ?_ ?_
  · rintro i _ H' hi ⟨o2, o3, rfl, hS'⟩
    refine ⟨_, rfl, _, rfl, a, ns, 0 + (i : Int), rfl, hS', hl, by omega, by omega, fun p H2 s2 np dd => ⟨rfl, fun _ => none, p, [], (), 0, rfl, (fun _ _ z => nomatch z), rfl, dd, rfl, ?_⟩⟩
    refine w_right (by decide) fun d v F' H3 x3 _ _ rv => ?_
    refine ⟨true, rv, _, _, rfl, sqb hS' np s2 fun b o n h => x3.hp b o (fun z => n (Option.some.inj z).symm) h⟩
  rintro _ H1 ⟨o2, o3, rfl, _⟩
  dsimp only [tSeq, tAsg]
  refine root_made rfl fun x H2 s2 hx => ?_
  rw [show mkNm 0 1 2 1 = ⟨0, 1, 2, 1⟩ from by decide +kernel] at hx
  have k2 : Okn 2 ⟨0, 1, 2, 1⟩ := ⟨⟨by decide, by decide, fun z => absurd z (by decide)⟩, fun _ => rfl, fun z => absurd z (by decide)⟩
  have h2 : okR 2 := .inr (by decide +kernel)
  have kf : ∀ i j : Int, 0 < j → gcd3 i 0 j = 1 → Okn 2 ⟨i, 0, 0, j⟩ := fun i j h g => ⟨⟨h, g, fun _ => rfl⟩, fun z => absurd rfl z, fun z => absurd z (by decide)⟩
  have ka := kf 99 70 (by decide) (by decide +kernel)
  have kb := kf 140 99 (by decide) (by decide +kernel)
  have g2 : Gd 1000 ⟨0, 1, 2, 1⟩ := k2.gd h2 (bd_sm (i := 0) (by decide) (by decide)) (bd_sm (i := 1) (by decide) (by decide)) (bd_sm (i := 1) (by decide) (by decide))
  have ga : Gd 1000 ⟨99, 0, 0, 70⟩ := ka.gd h2 (bd_sm (i := 99) (by decide) (by decide)) (bd_sm (i := 0) (by decide) (by decide)) (bd_sm (i := 70) (by decide) (by decide))
  have gb : Gd 1000 ⟨140, 0, 0, 99⟩ := kb.gd h2 (bd_sm (i := 140) (by decide) (by decide)) (bd_sm (i := 0) (by decide) (by decide)) (bd_sm (i := 99) (by decide) (by decide))
  refine ⟨_, rfl, hx.me ?_⟩
  dsimp only [tCons, tNil]
  refine frac_made rfl (by decide) (bd_sm (by decide) (by decide)) fun y H3 s3 hy => ?_
  rw [show mkNm 99 0 0 70 = ⟨99, 0, 0, 70⟩ from by decide +kernel] at hy
  refine cmp2 (hx.same s3) hy ⟨k2.cm ka, g2, ga⟩ fun H4 s4 => ?_
  rw [show cmpN ⟨0, 1, 2, 1⟩ ⟨99, 0, 0, 70⟩ = -1 from by decide +kernel]
  refine ⟨_, rfl, rfl, _, rfl, ?_⟩
  rw [if_pos (by decide)]
  have s24 := s3.trans s4
  refine ⟨_, rfl, (hx.same s24).me ?_⟩
  dsimp only [tCons, tNil]
  refine frac_made rfl (by decide) (bd_sm (by decide) (by decide)) fun y H5 s5 hy => ?_
  rw [show mkNm 140 0 0 99 = ⟨140, 0, 0, 99⟩ from by decide +kernel] at hy
  refine cmp2 (hx.same (s24.trans s5)) hy ⟨k2.cm kb, g2, gb⟩ fun H6 s6 => ?_
  rw [show cmpN ⟨0, 1, 2, 1⟩ ⟨140, 0, 0, 99⟩ = 1 from by decide +kernel]
  exact ⟨rfl, q H6⟩
end
end PF2

set_option Elab.async false
set_option linter.all false
set_option maxRecDepth 100000
set_option maxHeartbeats 4000000
set_option exponentiation.threshold 20000
namespace PF
open PySem PySem.Spec PyProof.Rows L2 SlX
theorem num_kwd {K : PySem.W.Frag} {D : Addr} {tk1 tk2 : Tok} (h1 : PySem.W.nsIn K D "root" = some (some (.int 0 tk1))) (h2 : PySem.W.nsIn K D "bottom" = some (some (.int 1 tk2))) :
    ∀ q ∈ ([("root", .int 0), ("bottom", .int 1)] : List (Str × V)), ∃ u, PySem.W.nsIn K D q.1 = some (some u) ∧ RelV q.2 u := fun q hq => by
  rcases List.mem_cons.mp hq with e | hq
  · subst e; exact ⟨_, h1, _, rfl⟩
  · rcases List.mem_cons.mp hq with e | hq
    · subst e; exact ⟨_, h2, _, rfl⟩
    · cases hq
theorem kit_self {K : PySem.W.Frag} {C : Addr} : PySem.W.kitOne K (.ref C) (.ref C) = some true := by
  unfold PySem.W.kitOne
  rw [if_pos (by simp)]
theorem kit_own {K : PySem.W.Frag} {C : Addr} {t : Value} {b : Bool} (ne : (t == Value.ref C) = false) (h1 : PySem.W.isClsIn K C = true) (h2 : PySem.W.typeIn K (.ref C) = some (.type "type")) (h3 : PySem.W.subIn K t (.ref C) = some b) : PySem.W.kitOne K t (.ref C) = some b := by
  unfold PySem.W.kitOne
  rw [ne, if_neg Bool.false_ne_true]
  show (if ((PySem.W.clsIn K C).isSome && PySem.W.typeIn K (.ref C) == some (.type "type")) = true then PySem.W.subIn K t (.ref C) else none) = some b
  rw [if_pos (by rw [show (PySem.W.clsIn K C).isSome = true from h1, h2]; rfl)]
  exact h3
theorem kit_bi {K : PySem.W.Frag} {C : Addr} {T : String} {b : Bool} (h1 : PySem.W.kitMeta T = true) (h3 : PySem.W.subIn K (.ref C) (.type T) = some b) : PySem.W.kitOne K (.ref C) (.type T) = some b := by
  unfold PySem.W.kitOne
  rw [if_neg (show ¬ (Value.ref C == Value.type T) = true from fun z => nomatch z)]
  show (if PySem.W.kitMeta T = true then PySem.W.subIn K (.ref C) (.type T) else none) = some b
  rw [if_pos h1]
  exact h3
section
variable {K : PySem.W.Frag} {f : Addr} {fd : FuncData}
theorem num_binds (F : FunD K "__init__" "Number.__init__" (defArgs (inClass (topS 21) 1)) (defBody (inClass (topS 21) 1)) (defScope (inClass (topS 21) 1)) [.int 0] [("root", .int 0), ("bottom", .int 1)] f fd) : ∃ ds, Vals [.int 0, .int 0, .int 1] ds ∧ Binds K fd ["self", "top", "part", "root", "bottom"] ds :=
  F.binds 2 0 (by simp) rfl (fun T D doc pm an cdv ct us its ks h1 h2 h3 => match us, its, ks, h1, h2, h3 with
    | [_, _], [_], [_, _], _, _, _ => ⟨_, rfl, ⟨_, _, _, _, _, _, rfl, rfl, ⟨_, _, _, _, _, _, rfl, rfl, rfl⟩⟩⟩) (by simp)
theorem num_kbinds (F : FunD K "__init__" "Number.__init__" (defArgs (inClass (topS 21) 1)) (defBody (inClass (topS 21) 1)) (defScope (inClass (topS 21) 1)) [.int 0] [("root", .int 0), ("bottom", .int 1)] f fd) : ∃ its : List Value, KBn K fd ["self", "top", "part", "root", "bottom"] 3 ["root", "bottom"] (fun us ws => us ++ ws) (fun vs zs => vs ++ zs) := by
  obtain ⟨its, h⟩ := F.kbindsD (ps := ["self", "top", "part", "root", "bottom"]) 3 ["root", "bottom"] (fun us _ ws => us ++ ws) (by simp) (fun r1 _ r3 => r1.append r3) (fun T kV doc pm an cdv ct us its ws h1 h2 h3 => match us, its, ws, h1, h2, h3 with
    | [_, _, _], [_], [_, _], _, _, _ => ⟨_, rfl, rfl⟩)
  exact ⟨its, h⟩
end
theorem nf_of {K : PySem.W.Frag} {C : Addr} {t : Value} (h : PySem.W.subIn K t (.ref C) = some false) : PySem.W.notFirst K C t = true := by
  unfold PySem.W.notFirst
  rw [h]
  simp
end PF
namespace PF2
open PF PySem PySem.Spec PyProof.Rows L2 SlX
theorem kb_Number2root {K : PySem.W.Frag} {f : Addr} {fd : FuncData} (F : FunD K "__init__" "Number.__init__" (defArgs (inClass (topS 21) 1)) (defBody (inClass (topS 21) 1)) (defScope (inClass (topS 21) 1)) [.int 0] [("root", .int 0), ("bottom", .int 1)] f fd) : ∃ its mv : List Value, KBn K fd ["self", "top", "part", "root", "bottom"] 3 ["root"] (fun us ws => us ++ ws ++ mv) (fun vs zs => vs ++ zs ++ [V.int 1]) := by
  obtain ⟨its, mv, h⟩ := F.kbinds (ps := ["self", "top", "part", "root", "bottom"]) 3 ["root"] [("bottom", .int 1)] (fun us its mv ws => us ++ ws ++ mv) (by simp) (by simp) (by simp) (fun r1 r2 r3 r4 => (r1.append r4).append r3) (fun T D doc pm an cdv ct us its mv ws h1 h2 h3 h4 => match us, its, mv, ws, h1, h2, h3, h4 with
    | [_, _, _], [_], [_], [_], _, _, _, _ => ⟨_, rfl, ⟨_, _, _, _, _, _, rfl, rfl, rfl⟩⟩)
  exact ⟨its, mv, h⟩
theorem kb_Number1bottom {K : PySem.W.Frag} {f : Addr} {fd : FuncData} (F : FunD K "__init__" "Number.__init__" (defArgs (inClass (topS 21) 1)) (defBody (inClass (topS 21) 1)) (defScope (inClass (topS 21) 1)) [.int 0] [("root", .int 0), ("bottom", .int 1)] f fd) : ∃ its mv : List Value, KBn K fd ["self", "top", "part", "root", "bottom"] 2 ["bottom"] (fun us ws => us ++ its ++ mv ++ ws) (fun vs zs => vs ++ [V.int 0] ++ [V.int 0] ++ zs) := by
  obtain ⟨its, mv, h⟩ := F.kbinds (ps := ["self", "top", "part", "root", "bottom"]) 2 ["bottom"] [("root", .int 0)] (fun us its mv ws => us ++ its ++ mv ++ ws) (by simp) (by simp) (by simp) (fun r1 r2 r3 r4 => ((r1.append r2).append r3).append r4) (fun T D doc pm an cdv ct us its mv ws h1 h2 h3 h4 => match us, its, mv, ws, h1, h2, h3, h4 with
    | [_, _], [_], [_], [_], _, _, _, _ => ⟨_, rfl, ⟨_, _, _, _, _, _, rfl, rfl, rfl⟩⟩)
  exact ⟨its, mv, h⟩
theorem all_mk {prog : Program} {w : World} {K : PySem.W.Frag} {h : Heap} {mg : Str → Option Value} {fa : Addr} (X : K.In h) (G : h.Ns mainGlobals mg) (hfa : mg "law" = some (.ref fa))
    {CN CF : Addr}
    {pNtop : Addr}
    {pNpart : Addr}
    {pNroot : Addr}
    {pNbottom : Addr}
    {pFtop : Addr}
    {pFpart : Addr}
    {pFroot : Addr}
    {pFbottom : Addr}
    {ft0 : Addr} {odt0 ant0 : Option Addr} {slt0 : Array (Option Value)} {oct0 kVt0 dct0 pmt0 cdt0 ctt0 : Value}
    {ft1 : Addr} {odt1 ant1 : Option Addr} {slt1 : Array (Option Value)} {oct1 kVt1 dct1 pmt1 cdt1 ctt1 : Value}
    {ft2 : Addr} {odt2 ant2 : Option Addr} {slt2 : Array (Option Value)} {oct2 kVt2 dct2 pmt2 cdt2 ctt2 : Value}
    {ft3 : Addr} {odt3 ant3 : Option Addr} {slt3 : Array (Option Value)} {oct3 kVt3 dct3 pmt3 cdt3 ctt3 : Value}
    {ft4 : Addr} {odt4 ant4 : Option Addr} {slt4 : Array (Option Value)} {oct4 kVt4 dct4 pmt4 cdt4 ctt4 : Value}
    {ft5 : Addr} {odt5 ant5 : Option Addr} {slt5 : Array (Option Value)} {oct5 kVt5 dct5 pmt5 cdt5 ctt5 : Value}
    {ft6 : Addr} {odt6 ant6 : Option Addr} {slt6 : Array (Option Value)} {oct6 kVt6 dct6 pmt6 cdt6 ctt6 : Value}
    {ft7 : Addr} {odt7 ant7 : Option Addr} {slt7 : Array (Option Value)} {oct7 kVt7 dct7 pmt7 cdt7 ctt7 : Value}
    {ffi : Addr} {odfi anfi : Option Addr} {slfi : Array (Option Value)} {ocfi kVfi dcfi pmfi cdfi ctfi : Value}
    {ft8 : Addr} {odt8 ant8 : Option Addr} {slt8 : Array (Option Value)} {oct8 kVt8 dct8 pmt8 cdt8 ctt8 : Value}
    {fni aT aD : Addr} {odni anni odT : Option Addr} {slni slT : Array (Option Value)} {ocni ocT dcni pmni cdni ctni : Value} {mT : Nat} {tk0 tk1 tk2 : Tok}
    {ft9 : Addr} {odt9 ant9 : Option Addr} {slt9 : Array (Option Value)} {oct9 kVt9 dct9 pmt9 cdt9 ctt9 : Value}
    {ft10 : Addr} {odt10 ant10 : Option Addr} {slt10 : Array (Option Value)} {oct10 kVt10 dct10 pmt10 cdt10 ctt10 : Value}
    {ft11 : Addr} {odt11 ant11 : Option Addr} {slt11 : Array (Option Value)} {oct11 kVt11 dct11 pmt11 cdt11 ctt11 : Value}
    {ft12 : Addr} {odt12 ant12 : Option Addr} {slt12 : Array (Option Value)} {oct12 kVt12 dct12 pmt12 cdt12 ctt12 : Value}
    {fsub : Addr} {odsub ansub : Option Addr} {slsub : Array (Option Value)} {ocsub kVsub dcsub pmsub cdsub ctsub : Value}
    {fosub rosub : Option Value}
    {fm_compared : Addr} {odm_compared anm_compared : Option Addr} {slm_compared : Array (Option Value)} {ocm_compared kVm_compared dcm_compared pmm_compared cdm_compared ctm_compared : Value}
    {feq : Addr} {odeq aneq : Option Addr} {sleq : Array (Option Value)} {oceq kVeq dceq pmeq cdeq cteq : Value}
    {dp_sign : Addr} {rsp_sign : List Value}
    {fp_sign : Addr} {odp_sign anp_sign : Option Addr} {slp_sign : Array (Option Value)} {ocp_sign kVp_sign dcp_sign pmp_sign cdp_sign ctp_sign : Value}
    {dp_floor : Addr} {rsp_floor : List Value}
    {fp_floor : Addr} {odp_floor anp_floor : Option Addr} {slp_floor : Array (Option Value)} {ocp_floor kVp_floor dcp_floor pmp_floor cdp_floor ctp_floor : Value}
    {fstr : Addr} {odstr anstr : Option Addr} {slstr : Array (Option Value)} {ocstr kVstr dcstr pmstr cdstr ctstr : Value}
    {ft13 : Addr} {odt13 ant13 : Option Addr} {slt13 : Array (Option Value)} {oct13 kVt13 dct13 pmt13 cdt13 ctt13 : Value}
    {ft14 : Addr} {odt14 ant14 : Option Addr} {slt14 : Array (Option Value)} {oct14 kVt14 dct14 pmt14 cdt14 ctt14 : Value}
    {ft15 : Addr} {odt15 ant15 : Option Addr} {slt15 : Array (Option Value)} {oct15 kVt15 dct15 pmt15 cdt15 ctt15 : Value}
    {ft16 : Addr} {odt16 ant16 : Option Addr} {slt16 : Array (Option Value)} {oct16 kVt16 dct16 pmt16 cdt16 ctt16 : Value}
    {ft17 : Addr} {odt17 ant17 : Option Addr} {slt17 : Array (Option Value)} {oct17 kVt17 dct17 pmt17 cdt17 ctt17 : Value}
    {ft18 : Addr} {odt18 ant18 : Option Addr} {slt18 : Array (Option Value)} {oct18 kVt18 dct18 pmt18 cdt18 ctt18 : Value}
    {ft19 : Addr} {odt19 ant19 : Option Addr} {slt19 : Array (Option Value)} {oct19 kVt19 dct19 pmt19 cdt19 ctt19 : Value}
    {ft20 : Addr} {odt20 ant20 : Option Addr} {slt20 : Array (Option Value)} {oct20 kVt20 dct20 pmt20 cdt20 ctt20 : Value}
    {ft21 : Addr} {odt21 ant21 : Option Addr} {slt21 : Array (Option Value)} {oct21 kVt21 dct21 pmt21 cdt21 ctt21 : Value}
    {ft22 : Addr} {odt22 ant22 : Option Addr} {slt22 : Array (Option Value)} {oct22 kVt22 dct22 pmt22 cdt22 ctt22 : Value}
    {ft23 : Addr} {odt23 ant23 : Option Addr} {slt23 : Array (Option Value)} {oct23 kVt23 dct23 pmt23 cdt23 ctt23 : Value}
    {ft24 : Addr} {odt24 ant24 : Option Addr} {slt24 : Array (Option Value)} {oct24 kVt24 dct24 pmt24 cdt24 ctt24 : Value}
    {tkLEAST_ROOT : Tok}
    {tkMAX_ROOT : Tok}
    (aN : PySem.W.nsIn K mainGlobals "Number" = some (some (.ref CN)))
    (aF : PySem.W.nsIn K mainGlobals "Form" = some (some (.ref CF)))
    (z_abs : PySem.W.nsIn K mainGlobals "abs" = some none)
    (z_all : PySem.W.nsIn K mainGlobals "all" = some none)
    (z_bool : PySem.W.nsIn K mainGlobals "bool" = some none)
    (z_int : PySem.W.nsIn K mainGlobals "int" = some none)
    (z_isinstance : PySem.W.nsIn K mainGlobals "isinstance" = some none)
    (z_len : PySem.W.nsIn K mainGlobals "len" = some none)
    (z_list : PySem.W.nsIn K mainGlobals "list" = some none)
    (z_max : PySem.W.nsIn K mainGlobals "max" = some none)
    (z_min : PySem.W.nsIn K mainGlobals "min" = some none)
    (z_range : PySem.W.nsIn K mainGlobals "range" = some none)
    (z_repr : PySem.W.nsIn K mainGlobals "repr" = some none)
    (z_str : PySem.W.nsIn K mainGlobals "str" = some none)
    (pgN : PySem.W.plainGet K CN Str.empty = true)
    (icN : PySem.W.isClsIn K CN = true)
    (poN : PySem.W.plainOver K CN = true)
    (saN : PySem.W.findIn K (.ref CN) "__setattr__" = some (some (.builtin "object.__setattr__")))
    (caN : PySem.W.findIn K (.ref CN) "__class__" = some (some (.builtin "object.__class__")))
    (cmN : PySem.W.mroIn K CN (.type "object") = some true)
    (mkN : PySem.W.makesIn K CN = true)
    (kcN : PySem.W.keepIn K (.ref CN) = true)
    (pgF : PySem.W.plainGet K CF Str.empty = true)
    (icF : PySem.W.isClsIn K CF = true)
    (poF : PySem.W.plainOver K CF = true)
    (saF : PySem.W.findIn K (.ref CF) "__setattr__" = some (some (.builtin "object.__setattr__")))
    (caF : PySem.W.findIn K (.ref CF) "__class__" = some (some (.builtin "object.__class__")))
    (cmF : PySem.W.mroIn K CF (.type "object") = some true)
    (mkF : PySem.W.makesIn K CF = true)
    (kcF : PySem.W.keepIn K (.ref CF) = true)
    (cn : PySem.W.specialIn K (.builtin "object.__class__") "__get__" = some (some (.builtin "getset_descriptor.__get__")))
    (ct : PySem.W.takesIn K (.builtin "object.__class__") = some true)
    (saNtop : PySem.W.findIn K (.ref CN) "own_top" = some (some (.ref pNtop)))
    (sgNtop : PySem.W.specialIn K (.ref pNtop) "__get__" = some (some (.builtin "member_descriptor.__get__")))
    (stNtop : PySem.W.takesIn K (.ref pNtop) = some true)
    (syNtop : PySem.W.typeIn K (.ref pNtop) = some (.type "member_descriptor"))
    (sxNtop : PySem.W.slotIn K pNtop CN = some 3)
    (saNpart : PySem.W.findIn K (.ref CN) "own_part" = some (some (.ref pNpart)))
    (sgNpart : PySem.W.specialIn K (.ref pNpart) "__get__" = some (some (.builtin "member_descriptor.__get__")))
    (stNpart : PySem.W.takesIn K (.ref pNpart) = some true)
    (syNpart : PySem.W.typeIn K (.ref pNpart) = some (.type "member_descriptor"))
    (sxNpart : PySem.W.slotIn K pNpart CN = some 1)
    (saNroot : PySem.W.findIn K (.ref CN) "own_root" = some (some (.ref pNroot)))
    (sgNroot : PySem.W.specialIn K (.ref pNroot) "__get__" = some (some (.builtin "member_descriptor.__get__")))
    (stNroot : PySem.W.takesIn K (.ref pNroot) = some true)
    (syNroot : PySem.W.typeIn K (.ref pNroot) = some (.type "member_descriptor"))
    (sxNroot : PySem.W.slotIn K pNroot CN = some 2)
    (saNbottom : PySem.W.findIn K (.ref CN) "own_bottom" = some (some (.ref pNbottom)))
    (sgNbottom : PySem.W.specialIn K (.ref pNbottom) "__get__" = some (some (.builtin "member_descriptor.__get__")))
    (stNbottom : PySem.W.takesIn K (.ref pNbottom) = some true)
    (syNbottom : PySem.W.typeIn K (.ref pNbottom) = some (.type "member_descriptor"))
    (sxNbottom : PySem.W.slotIn K pNbottom CN = some 0)
    (saFtop : PySem.W.findIn K (.ref CF) "own_top" = some (some (.ref pFtop)))
    (sgFtop : PySem.W.specialIn K (.ref pFtop) "__get__" = some (some (.builtin "member_descriptor.__get__")))
    (stFtop : PySem.W.takesIn K (.ref pFtop) = some true)
    (syFtop : PySem.W.typeIn K (.ref pFtop) = some (.type "member_descriptor"))
    (sxFtop : PySem.W.slotIn K pFtop CF = some 3)
    (saFpart : PySem.W.findIn K (.ref CF) "own_part" = some (some (.ref pFpart)))
    (sgFpart : PySem.W.specialIn K (.ref pFpart) "__get__" = some (some (.builtin "member_descriptor.__get__")))
    (stFpart : PySem.W.takesIn K (.ref pFpart) = some true)
    (syFpart : PySem.W.typeIn K (.ref pFpart) = some (.type "member_descriptor"))
    (sxFpart : PySem.W.slotIn K pFpart CF = some 1)
    (saFroot : PySem.W.findIn K (.ref CF) "own_root" = some (some (.ref pFroot)))
    (sgFroot : PySem.W.specialIn K (.ref pFroot) "__get__" = some (some (.builtin "member_descriptor.__get__")))
    (stFroot : PySem.W.takesIn K (.ref pFroot) = some true)
    (syFroot : PySem.W.typeIn K (.ref pFroot) = some (.type "member_descriptor"))
    (sxFroot : PySem.W.slotIn K pFroot CF = some 2)
    (saFbottom : PySem.W.findIn K (.ref CF) "own_bottom" = some (some (.ref pFbottom)))
    (sgFbottom : PySem.W.specialIn K (.ref pFbottom) "__get__" = some (some (.builtin "member_descriptor.__get__")))
    (stFbottom : PySem.W.takesIn K (.ref pFbottom) = some true)
    (syFbottom : PySem.W.typeIn K (.ref pFbottom) = some (.type "member_descriptor"))
    (sxFbottom : PySem.W.slotIn K pFbottom CF = some 0)
    (tyN : PySem.W.typeIn K (.ref CN) = some (.type "type"))
    (tyF : PySem.W.typeIn K (.ref CF) = some (.type "type"))
    (suF : PySem.W.subIn K (.type "int") (.ref CF) = some false)
    (suI : PySem.W.subIn K (.ref CN) (.type "int") = some false)
    (suN : PySem.W.subIn K (.type "int") (.ref CN) = some false)
    (at0 : PySem.W.nsIn K mainGlobals "is_whole" = some (some (.ref ft0)))
    (lt0 : K.lookup ft0 = some ⟨oct0, odt0, .func (PySem.W.fnOf "is_whole" "is_whole" (defArgs (topS 6)) (defBody (topS 6)) (defScope (topS 6)) .none kVt0 dct0 pmt0 ant0 cdt0 ctt0), slt0⟩)
    (ct0 : PySem.W.codeIn K cdt0 "is_whole" = true)
    (kt0 : PySem.W.keepIn K (.ref ft0) = true)
    (at1 : PySem.W.nsIn K mainGlobals "greatest_divisor" = some (some (.ref ft1)))
    (lt1 : K.lookup ft1 = some ⟨oct1, odt1, .func (PySem.W.fnOf "greatest_divisor" "greatest_divisor" (defArgs (topS 7)) (defBody (topS 7)) (defScope (topS 7)) .none kVt1 dct1 pmt1 ant1 cdt1 ctt1), slt1⟩)
    (ct1 : PySem.W.codeIn K cdt1 "greatest_divisor" = true)
    (kt1 : PySem.W.keepIn K (.ref ft1) = true)
    (at2 : PySem.W.nsIn K mainGlobals "whole_root" = some (some (.ref ft2)))
    (lt2 : K.lookup ft2 = some ⟨oct2, odt2, .func (PySem.W.fnOf "whole_root" "whole_root" (defArgs (topS 8)) (defBody (topS 8)) (defScope (topS 8)) .none kVt2 dct2 pmt2 ant2 cdt2 ctt2), slt2⟩)
    (ct2 : PySem.W.codeIn K cdt2 "whole_root" = true)
    (kt2 : PySem.W.keepIn K (.ref ft2) = true)
    (at3 : PySem.W.nsIn K mainGlobals "is_root" = some (some (.ref ft3)))
    (lt3 : K.lookup ft3 = some ⟨oct3, odt3, .func (PySem.W.fnOf "is_root" "is_root" (defArgs (topS 14)) (defBody (topS 14)) (defScope (topS 14)) .none kVt3 dct3 pmt3 ant3 cdt3 ctt3), slt3⟩)
    (ct3 : PySem.W.codeIn K cdt3 "is_root" = true)
    (kt3 : PySem.W.keepIn K (.ref ft3) = true)
    (at4 : PySem.W.nsIn K mainGlobals "sign_of" = some (some (.ref ft4)))
    (lt4 : K.lookup ft4 = some ⟨oct4, odt4, .func (PySem.W.fnOf "sign_of" "sign_of" (defArgs (topS 15)) (defBody (topS 15)) (defScope (topS 15)) .none kVt4 dct4 pmt4 ant4 cdt4 ctt4), slt4⟩)
    (ct4 : PySem.W.codeIn K cdt4 "sign_of" = true)
    (kt4 : PySem.W.keepIn K (.ref ft4) = true)
    (at5 : PySem.W.nsIn K mainGlobals "sign_of_sum" = some (some (.ref ft5)))
    (lt5 : K.lookup ft5 = some ⟨oct5, odt5, .func (PySem.W.fnOf "sign_of_sum" "sign_of_sum" (defArgs (topS 16)) (defBody (topS 16)) (defScope (topS 16)) .none kVt5 dct5 pmt5 ant5 cdt5 ctt5), slt5⟩)
    (ct5 : PySem.W.codeIn K cdt5 "sign_of_sum" = true)
    (kt5 : PySem.W.keepIn K (.ref ft5) = true)
    (at6 : PySem.W.nsIn K mainGlobals "floor_of" = some (some (.ref ft6)))
    (lt6 : K.lookup ft6 = some ⟨oct6, odt6, .func (PySem.W.fnOf "floor_of" "floor_of" (defArgs (topS 17)) (defBody (topS 17)) (defScope (topS 17)) .none kVt6 dct6 pmt6 ant6 cdt6 ctt6), slt6⟩)
    (ct6 : PySem.W.codeIn K cdt6 "floor_of" = true)
    (kt6 : PySem.W.keepIn K (.ref ft6) = true)
    (at7 : PySem.W.nsIn K mainGlobals "told_number" = some (some (.ref ft7)))
    (lt7 : K.lookup ft7 = some ⟨oct7, odt7, .func (PySem.W.fnOf "told_number" "told_number" (defArgs (topS 18)) (defBody (topS 18)) (defScope (topS 18)) .none kVt7 dct7 pmt7 ant7 cdt7 ctt7), slt7⟩)
    (ct7 : PySem.W.codeIn K cdt7 "told_number" = true)
    (kt7 : PySem.W.keepIn K (.ref ft7) = true)
    (afi : PySem.W.findIn K (.ref CF) "__init__" = some (some (.ref ffi)))
    (lfi : K.lookup ffi = some ⟨ocfi, odfi, .func (PySem.W.fnOf "__init__" "Form.__init__" (defArgs (inClass (topS 19) 1)) (defBody (inClass (topS 19) 1)) (defScope (inClass (topS 19) 1)) .none kVfi dcfi pmfi anfi cdfi ctfi), slfi⟩)
    (cfi : PySem.W.codeIn K cdfi "Form.__init__" = true)
    (kfi : PySem.W.keepIn K (.ref ffi) = true)
    (ifi : PySem.W.isFn K (.ref ffi) = true)
    (at8 : PySem.W.nsIn K mainGlobals "form_in" = some (some (.ref ft8)))
    (lt8 : K.lookup ft8 = some ⟨oct8, odt8, .func (PySem.W.fnOf "form_in" "form_in" (defArgs (topS 20)) (defBody (topS 20)) (defScope (topS 20)) .none kVt8 dct8 pmt8 ant8 cdt8 ctt8), slt8⟩)
    (ct8 : PySem.W.codeIn K cdt8 "form_in" = true)
    (kt8 : PySem.W.keepIn K (.ref ft8) = true)
    (ani : PySem.W.findIn K (.ref CN) "__init__" = some (some (.ref fni)))
    (lni : K.lookup fni = some ⟨ocni, odni, .func (PySem.W.fnOf "__init__" "Number.__init__" (defArgs (inClass (topS 21) 1)) (defBody (inClass (topS 21) 1)) (defScope (inClass (topS 21) 1)) (.ref aT) (.ref aD) dcni pmni anni cdni ctni), slni⟩)
    (cni : PySem.W.codeIn K cdni "Number.__init__" = true)
    (kni : PySem.W.keepIn K (.ref fni) = true)
    (ini : PySem.W.isFn K (.ref fni) = true)
    (lT : K.lookup aT = some ⟨ocT, odT, .seq #[.int 0 tk0] mT, slT⟩)
    (nDr : PySem.W.nsIn K aD "root" = some (some (.int 0 tk1)))
    (nDb : PySem.W.nsIn K aD "bottom" = some (some (.int 1 tk2)))
    (at9 : PySem.W.nsIn K mainGlobals "is_like_number" = some (some (.ref ft9)))
    (lt9 : K.lookup ft9 = some ⟨oct9, odt9, .func (PySem.W.fnOf "is_like_number" "is_like_number" (defArgs (topS 22)) (defBody (topS 22)) (defScope (topS 22)) .none kVt9 dct9 pmt9 ant9 cdt9 ctt9), slt9⟩)
    (ct9 : PySem.W.codeIn K cdt9 "is_like_number" = true)
    (kt9 : PySem.W.keepIn K (.ref ft9) = true)
    (at10 : PySem.W.nsIn K mainGlobals "number_of" = some (some (.ref ft10)))
    (lt10 : K.lookup ft10 = some ⟨oct10, odt10, .func (PySem.W.fnOf "number_of" "number_of" (defArgs (topS 23)) (defBody (topS 23)) (defScope (topS 23)) .none kVt10 dct10 pmt10 ant10 cdt10 ctt10), slt10⟩)
    (ct10 : PySem.W.codeIn K cdt10 "number_of" = true)
    (kt10 : PySem.W.keepIn K (.ref ft10) = true)
    (at11 : PySem.W.nsIn K mainGlobals "required" = some (some (.ref ft11)))
    (lt11 : K.lookup ft11 = some ⟨oct11, odt11, .func (PySem.W.fnOf "required" "required" (defArgs (topS 24)) (defBody (topS 24)) (defScope (topS 24)) .none kVt11 dct11 pmt11 ant11 cdt11 ctt11), slt11⟩)
    (ct11 : PySem.W.codeIn K cdt11 "required" = true)
    (kt11 : PySem.W.keepIn K (.ref ft11) = true)
    (at12 : PySem.W.nsIn K mainGlobals "common_root" = some (some (.ref ft12)))
    (lt12 : K.lookup ft12 = some ⟨oct12, odt12, .func (PySem.W.fnOf "common_root" "common_root" (defArgs (topS 25)) (defBody (topS 25)) (defScope (topS 25)) .none kVt12 dct12 pmt12 ant12 cdt12 ctt12), slt12⟩)
    (ct12 : PySem.W.codeIn K cdt12 "common_root" = true)
    (kt12 : PySem.W.keepIn K (.ref ft12) = true)
    (asub : PySem.W.findIn K (.ref CN) "__sub__" = some (some (.ref fsub)))
    (lsub : K.lookup fsub = some ⟨ocsub, odsub, .func (PySem.W.fnOf "__sub__" "Number.__sub__" (defArgs (inClass (topS 21) 14)) (defBody (inClass (topS 21) 14)) (defScope (inClass (topS 21) 14)) .none kVsub dcsub pmsub ansub cdsub ctsub), slsub⟩)
    (csub : PySem.W.codeIn K cdsub "Number.__sub__" = true)
    (ksub : PySem.W.keepIn K (.ref fsub) = true)
    (isub : PySem.W.isFn K (.ref fsub) = true)
    (rcsub : PySem.W.findIn K (.ref CN) "__rsub__" = some none)
    (fosub : PySem.W.findIn K (.type "int") "__sub__" = some fosub)
    (rosub : PySem.W.findIn K (.type "int") "__rsub__" = some rosub)
    (sfN : PySem.W.selfFirst K CN = true)
    (am_compared : PySem.W.findIn K (.ref CN) "compared" = some (some (.ref fm_compared)))
    (lm_compared : K.lookup fm_compared = some ⟨ocm_compared, odm_compared, .func (PySem.W.fnOf "compared" "Number.compared" (defArgs (inClass (topS 21) 11)) (defBody (inClass (topS 21) 11)) (defScope (inClass (topS 21) 11)) .none kVm_compared dcm_compared pmm_compared anm_compared cdm_compared ctm_compared), slm_compared⟩)
    (cm_compared : PySem.W.codeIn K cdm_compared "Number.compared" = true)
    (km_compared : PySem.W.keepIn K (.ref fm_compared) = true)
    (im_compared : PySem.W.isFn K (.ref fm_compared) = true)
    (aeq : PySem.W.findIn K (.ref CN) "__eq__" = some (some (.ref feq)))
    (leq : K.lookup feq = some ⟨oceq, odeq, .func (PySem.W.fnOf "__eq__" "Number.__eq__" (defArgs (inClass (topS 21) 17)) (defBody (inClass (topS 21) 17)) (defScope (inClass (topS 21) 17)) .none kVeq dceq pmeq aneq cdeq cteq), sleq⟩)
    (ceq : PySem.W.codeIn K cdeq "Number.__eq__" = true)
    (keq : PySem.W.keepIn K (.ref feq) = true)
    (ieq : PySem.W.isFn K (.ref feq) = true)
    (ne : PySem.W.findIn K (.ref CN) "__ne__" = some (some (.builtin "object.__ne__")))
    (ap_sign : PySem.W.findIn K (.ref CN) "sign" = some (some (.ref dp_sign)))
    (sp_sign : PySem.W.specialIn K (.ref dp_sign) "__get__" = some (some (.builtin "property.__get__")))
    (tp_sign : PySem.W.takesIn K (.ref dp_sign) = some true)
    (rp_sign : PySem.W.recIn K dp_sign "property" = some (.ref fp_sign :: rsp_sign))
    (lp_sign : K.lookup fp_sign = some ⟨ocp_sign, odp_sign, .func (PySem.W.fnOf "sign" "Number.sign" (defArgs (inClass (topS 21) 7)) (defBody (inClass (topS 21) 7)) (defScope (inClass (topS 21) 7)) .none kVp_sign dcp_sign pmp_sign anp_sign cdp_sign ctp_sign), slp_sign⟩)
    (cp_sign : PySem.W.codeIn K cdp_sign "Number.sign" = true)
    (kp_sign : PySem.W.keepIn K (.ref fp_sign) = true)
    (ap_floor : PySem.W.findIn K (.ref CN) "floor" = some (some (.ref dp_floor)))
    (sp_floor : PySem.W.specialIn K (.ref dp_floor) "__get__" = some (some (.builtin "property.__get__")))
    (tp_floor : PySem.W.takesIn K (.ref dp_floor) = some true)
    (rp_floor : PySem.W.recIn K dp_floor "property" = some (.ref fp_floor :: rsp_floor))
    (lp_floor : K.lookup fp_floor = some ⟨ocp_floor, odp_floor, .func (PySem.W.fnOf "floor" "Number.floor" (defArgs (inClass (topS 21) 8)) (defBody (inClass (topS 21) 8)) (defScope (inClass (topS 21) 8)) .none kVp_floor dcp_floor pmp_floor anp_floor cdp_floor ctp_floor), slp_floor⟩)
    (cp_floor : PySem.W.codeIn K cdp_floor "Number.floor" = true)
    (kp_floor : PySem.W.keepIn K (.ref fp_floor) = true)
    (astr : PySem.W.findIn K (.ref CN) "__str__" = some (some (.ref fstr)))
    (lstr : K.lookup fstr = some ⟨ocstr, odstr, .func (PySem.W.fnOf "__str__" "Number.__str__" (defArgs (inClass (topS 21) 18)) (defBody (inClass (topS 21) 18)) (defScope (inClass (topS 21) 18)) .none kVstr dcstr pmstr anstr cdstr ctstr), slstr⟩)
    (cstr : PySem.W.codeIn K cdstr "Number.__str__" = true)
    (kstr : PySem.W.keepIn K (.ref fstr) = true)
    (istr : PySem.W.isFn K (.ref fstr) = true)
    (su_bool : PySem.W.subIn K (.type "bool") (.ref CN) = some false)
    (su_str : PySem.W.subIn K (.type "str") (.ref CN) = some false)
    (su_NoneType : PySem.W.subIn K (.type "NoneType") (.ref CN) = some false)
    (su_list : PySem.W.subIn K (.type "list") (.ref CN) = some false)
    (su_tuple : PySem.W.subIn K (.type "tuple") (.ref CN) = some false)
    (su_dict : PySem.W.subIn K (.type "dict") (.ref CN) = some false)
    (at13 : PySem.W.nsIn K mainGlobals "_law_dice" = some (some (.ref ft13)))
    (lt13 : K.lookup ft13 = some ⟨oct13, odt13, .func (PySem.W.fnOf "_law_dice" "_law_dice" (defArgs (topS 30)) (defBody (topS 30)) (defScope (topS 30)) .none kVt13 dct13 pmt13 ant13 cdt13 ctt13), slt13⟩)
    (ct13 : PySem.W.codeIn K cdt13 "_law_dice" = true)
    (kt13 : PySem.W.keepIn K (.ref ft13) = true)
    (at14 : PySem.W.nsIn K mainGlobals "_law_roll" = some (some (.ref ft14)))
    (lt14 : K.lookup ft14 = some ⟨oct14, odt14, .func (PySem.W.fnOf "_law_roll" "_law_roll" (defArgs (topS 31)) (defBody (topS 31)) (defScope (topS 31)) .none kVt14 dct14 pmt14 ant14 cdt14 ctt14), slt14⟩)
    (ct14 : PySem.W.codeIn K cdt14 "_law_roll" = true)
    (kt14 : PySem.W.keepIn K (.ref ft14) = true)
    (at15 : PySem.W.nsIn K mainGlobals "_law_pick" = some (some (.ref ft15)))
    (lt15 : K.lookup ft15 = some ⟨oct15, odt15, .func (PySem.W.fnOf "_law_pick" "_law_pick" (defArgs (topS 32)) (defBody (topS 32)) (defScope (topS 32)) .none kVt15 dct15 pmt15 ant15 cdt15 ctt15), slt15⟩)
    (ct15 : PySem.W.codeIn K cdt15 "_law_pick" = true)
    (kt15 : PySem.W.keepIn K (.ref ft15) = true)
    (at16 : PySem.W.nsIn K mainGlobals "_law_mixed" = some (some (.ref ft16)))
    (lt16 : K.lookup ft16 = some ⟨oct16, odt16, .func (PySem.W.fnOf "_law_mixed" "_law_mixed" (defArgs (topS 33)) (defBody (topS 33)) (defScope (topS 33)) .none kVt16 dct16 pmt16 ant16 cdt16 ctt16), slt16⟩)
    (ct16 : PySem.W.codeIn K cdt16 "_law_mixed" = true)
    (kt16 : PySem.W.keepIn K (.ref ft16) = true)
    (at17 : PySem.W.nsIn K mainGlobals "_law_sign" = some (some (.ref ft17)))
    (lt17 : K.lookup ft17 = some ⟨oct17, odt17, .func (PySem.W.fnOf "_law_sign" "_law_sign" (defArgs (topS 34)) (defBody (topS 34)) (defScope (topS 34)) .none kVt17 dct17 pmt17 ant17 cdt17 ctt17), slt17⟩)
    (ct17 : PySem.W.codeIn K cdt17 "_law_sign" = true)
    (kt17 : PySem.W.keepIn K (.ref ft17) = true)
    (at18 : PySem.W.nsIn K mainGlobals "_law_parts_drawn" = some (some (.ref ft18)))
    (lt18 : K.lookup ft18 = some ⟨oct18, odt18, .func (PySem.W.fnOf "_law_parts_drawn" "_law_parts_drawn" (defArgs (topS 35)) (defBody (topS 35)) (defScope (topS 35)) .none kVt18 dct18 pmt18 ant18 cdt18 ctt18), slt18⟩)
    (ct18 : PySem.W.codeIn K cdt18 "_law_parts_drawn" = true)
    (kt18 : PySem.W.keepIn K (.ref ft18) = true)
    (at19 : PySem.W.nsIn K mainGlobals "_law_made" = some (some (.ref ft19)))
    (lt19 : K.lookup ft19 = some ⟨oct19, odt19, .func (PySem.W.fnOf "_law_made" "_law_made" (defArgs (topS 36)) (defBody (topS 36)) (defScope (topS 36)) .none kVt19 dct19 pmt19 ant19 cdt19 ctt19), slt19⟩)
    (ct19 : PySem.W.codeIn K cdt19 "_law_made" = true)
    (kt19 : PySem.W.keepIn K (.ref ft19) = true)
    (at20 : PySem.W.nsIn K mainGlobals "_law_beside" = some (some (.ref ft20)))
    (lt20 : K.lookup ft20 = some ⟨oct20, odt20, .func (PySem.W.fnOf "_law_beside" "_law_beside" (defArgs (topS 37)) (defBody (topS 37)) (defScope (topS 37)) .none kVt20 dct20 pmt20 ant20 cdt20 ctt20), slt20⟩)
    (ct20 : PySem.W.codeIn K cdt20 "_law_beside" = true)
    (kt20 : PySem.W.keepIn K (.ref ft20) = true)
    (at21 : PySem.W.nsIn K mainGlobals "_law_near" = some (some (.ref ft21)))
    (lt21 : K.lookup ft21 = some ⟨oct21, odt21, .func (PySem.W.fnOf "_law_near" "_law_near" (defArgs (topS 38)) (defBody (topS 38)) (defScope (topS 38)) .none kVt21 dct21 pmt21 ant21 cdt21 ctt21), slt21⟩)
    (ct21 : PySem.W.codeIn K cdt21 "_law_near" = true)
    (kt21 : PySem.W.keepIn K (.ref ft21) = true)
    (at22 : PySem.W.nsIn K mainGlobals "_law_row" = some (some (.ref ft22)))
    (lt22 : K.lookup ft22 = some ⟨oct22, odt22, .func (PySem.W.fnOf "_law_row" "_law_row" (defArgs (topS 39)) (defBody (topS 39)) (defScope (topS 39)) .none kVt22 dct22 pmt22 ant22 cdt22 ctt22), slt22⟩)
    (ct22 : PySem.W.codeIn K cdt22 "_law_row" = true)
    (kt22 : PySem.W.keepIn K (.ref ft22) = true)
    (at23 : PySem.W.nsIn K mainGlobals "_law_right" = some (some (.ref ft23)))
    (lt23 : K.lookup ft23 = some ⟨oct23, odt23, .func (PySem.W.fnOf "_law_right" "_law_right" (defArgs (topS 40)) (defBody (topS 40)) (defScope (topS 40)) .none kVt23 dct23 pmt23 ant23 cdt23 ctt23), slt23⟩)
    (ct23 : PySem.W.codeIn K cdt23 "_law_right" = true)
    (kt23 : PySem.W.keepIn K (.ref ft23) = true)
    (at24 : PySem.W.nsIn K mainGlobals "law" = some (some (.ref ft24)))
    (lt24 : K.lookup ft24 = some ⟨oct24, odt24, .func (PySem.W.fnOf "law" "law" (defArgs (topS 41)) (defBody (topS 41)) (defScope (topS 41)) .none kVt24 dct24 pmt24 ant24 cdt24 ctt24), slt24⟩)
    (ct24 : PySem.W.codeIn K cdt24 "law" = true)
    (kt24 : PySem.W.keepIn K (.ref ft24) = true)
    (gLEAST_ROOT : PySem.W.nsIn K mainGlobals "LEAST_ROOT" = some (some (.int 2 tkLEAST_ROOT)))
    (gMAX_ROOT : PySem.W.nsIn K mainGlobals "MAX_ROOT" = some (some (.int 999 tkMAX_ROOT)))
    : ∀ base : Heap, K.In base → base.Ns mainGlobals mg → FnG prog w K mg base 23 fa 1 (spLaw K) := by
  have e := hfa.symm.trans (PySem.W.mg_of X G at24)
  cases e
  intro base _ _
  have fr : Free mg := ⟨PySem.W.mg_none_of X G z_abs, PySem.W.mg_none_of X G z_all, PySem.W.mg_none_of X G z_bool, PySem.W.mg_none_of X G z_int, PySem.W.mg_none_of X G z_isinstance, PySem.W.mg_none_of X G z_len, PySem.W.mg_none_of X G z_list, PySem.W.mg_none_of X G z_max, PySem.W.mg_none_of X G z_min, PySem.W.mg_none_of X G z_range, PySem.W.mg_none_of X G z_repr, PySem.W.mg_none_of X G z_str⟩
  have T : NTxt K mg CN CF := ⟨PySem.W.mg_of X G aN, PySem.W.mg_of X G aF, ⟨pgN, icN, poN, saN⟩, ⟨pgF, icF, poF, saF⟩, ⟨caN, cn, ct, cmN⟩, ⟨caF, cn, ct, cmF⟩,
    ⟨_, saNtop, sgNtop, stNtop, syNtop, sxNtop, by decide⟩, ⟨_, saNpart, sgNpart, stNpart, syNpart, sxNpart, by decide⟩, ⟨_, saNroot, sgNroot, stNroot, syNroot, sxNroot, by decide⟩, ⟨_, saNbottom, sgNbottom, stNbottom, syNbottom, sxNbottom, by decide⟩, ⟨_, saFtop, sgFtop, stFtop, syFtop, sxFtop, by decide⟩, ⟨_, saFpart, sgFpart, stFpart, syFpart, sxFpart, by decide⟩, ⟨_, saFroot, sgFroot, stFroot, syFroot, sxFroot, by decide⟩, ⟨_, saFbottom, sgFbottom, stFbottom, syFbottom, sxFbottom, by decide⟩, kit_self, kit_self, kit_own rfl icF tyF suF, kit_own rfl icN tyN suN, kit_bi (by decide +kernel) suI⟩
  have Ft0 := fun_mk (st := topS 6) lt0 ct0 kt0
  have Bt0 := Ft0.binds (ps := ["value"]) fun _ _ _ _ _ _ us hl => match us, hl with | [_], _ => rfl
  have G_is_whole : GD prog w K mg base "is_whole" 2 (spIsWhole K) := ⟨_, _, _, PySem.W.mg_of X G at0, kt0, Bt0, PF.ok_is_whole Ft0 fr⟩
  have Ft1 := fun_mk (st := topS 7) lt1 ct1 kt1
  have Bt1 := Ft1.binds (ps := ["one", "other"]) fun _ _ _ _ _ _ us hl => match us, hl with | [_, _], _ => rfl
  have G_greatest_divisor : GD prog w K mg base "greatest_divisor" 2 spGcd := ⟨_, _, _, PySem.W.mg_of X G at1, kt1, Bt1, PF.ok_gcd Ft1⟩
  have Ft2 := fun_mk (st := topS 8) lt2 ct2 kt2
  have Bt2 := Ft2.binds (ps := ["square"]) fun _ _ _ _ _ _ us hl => match us, hl with | [_], _ => rfl
  have G_whole_root : GD prog w K mg base "whole_root" 2 spRoot := ⟨_, _, _, PySem.W.mg_of X G at2, kt2, Bt2, PF.ok_whole_root Ft2⟩
  have Ft3 := fun_mk (st := topS 14) lt3 ct3 kt3
  have Bt3 := Ft3.binds (ps := ["value"]) fun _ _ _ _ _ _ us hl => match us, hl with | [_], _ => rfl
  have G_is_root : GD prog w K mg base "is_root" 3 spIsRoot := ⟨_, _, _, PySem.W.mg_of X G at3, kt3, Bt3, PF.ok_is_root Ft3 fr ⟨_, PySem.W.mg_of X G gMAX_ROOT⟩ ⟨_, PySem.W.mg_of X G gLEAST_ROOT⟩ G_whole_root G_is_whole⟩
  have Ft4 := fun_mk (st := topS 15) lt4 ct4 kt4
  have Bt4 := Ft4.binds (ps := ["value"]) fun _ _ _ _ _ _ us hl => match us, hl with | [_], _ => rfl
  have G_sign_of : GD prog w K mg base "sign_of" 2 spSign := ⟨_, _, _, PySem.W.mg_of X G at4, kt4, Bt4, PF.ok_sign_of Ft4 fr⟩
  have Ft5 := fun_mk (st := topS 16) lt5 ct5 kt5
  have Bt5 := Ft5.binds (ps := ["top", "part", "root"]) fun _ _ _ _ _ _ us hl => match us, hl with | [_, _, _], _ => rfl
  have G_sign_of_sum : GD prog w K mg base "sign_of_sum" 3 spSignSum := ⟨_, _, _, PySem.W.mg_of X G at5, kt5, Bt5, PF.ok_sign_of_sum Ft5 G_sign_of⟩
  have Ft6 := fun_mk (st := topS 17) lt6 ct6 kt6
  have Bt6 := Ft6.binds (ps := ["top", "part", "root", "bottom"]) fun _ _ _ _ _ _ us hl => match us, hl with | [_, _, _, _], _ => rfl
  have G_floor_of : GD prog w K mg base "floor_of" 3 spFloor := ⟨_, _, _, PySem.W.mg_of X G at6, kt6, Bt6, PF.ok_floor_of Ft6 G_whole_root⟩
  have Ft7 := fun_mk (st := topS 18) lt7 ct7 kt7
  have Bt7 := Ft7.binds (ps := ["top", "part", "root", "bottom"]) fun _ _ _ _ _ _ us hl => match us, hl with | [_, _, _, _], _ => rfl
  have G_told_number : GD prog w K mg base "told_number" 2 spTold := ⟨_, _, _, PySem.W.mg_of X G at7, kt7, Bt7, PF.ok_told Ft7 fr⟩
  have Ffi := fun_mk (st := (inClass (topS 19) 1)) lfi cfi kfi
  have Bfi := Ffi.binds (ps := ["self", "top", "part", "root", "bottom"]) fun _ _ _ _ _ _ us hl => match us, hl with | [_, _, _, _, _], _ => rfl
  have G_Form : GM prog w K mg base "Form" CF 3 [] (spFormI CF) := ⟨_, _, _, _, PySem.W.mg_of X G aF, ⟨mkF, afi, ifi, kcF⟩, Bfi, .nil, ok_form_init Ffi fr T G_greatest_divisor⟩
  have Ft8 := fun_mk (st := topS 20) lt8 ct8 kt8
  have Bt8 := Ft8.binds (ps := ["top", "part", "root", "bottom"]) fun _ _ _ _ _ _ us hl => match us, hl with | [_, _, _, _], _ => rfl
  have G_form_in : GD prog w K mg base "form_in" 5 (spFormIn CF) := ⟨_, _, _, PySem.W.mg_of X G at8, kt8, Bt8, PF.ok_form_in Ft8 fr T G_is_whole G_is_root G_Form⟩
  have Fni : FunD K "__init__" "Number.__init__" (defArgs (inClass (topS 21) 1)) (defBody (inClass (topS 21) 1)) (defScope (inClass (topS 21) 1)) [.int 0] [("root", .int 0), ("bottom", .int 1)] fni _ := ⟨⟨ocni, odni, .ref aT, .ref aD, dcni, pmni, anni, cdni, ctni, slni, rfl, lni, cni, .inr ⟨by simp, aT, _, [.int 0 tk0], mT, rfl, lT, rfl, .cons ⟨_, rfl⟩ .nil⟩, .inr ⟨aD, rfl, num_kwd nDr nDb⟩⟩, kni⟩
  have okN := ok_num_init (P := prog) (w := w) (base := base) Fni T G_form_in
  obtain ⟨ds, rds, Bni⟩ := num_binds Fni
  obtain ⟨its, Kni⟩ := num_kbinds Fni
  have MkN : Mk K CN fni := ⟨mkN, ani, ini, kcN⟩
  have G_Number : GM prog w K mg base "Number" CN 6 [.int 0, .int 0, .int 1] (spNumI CN CF) := ⟨_, _, _, _, PySem.W.mg_of X G aN, MkN, Bni, rds, okN⟩
  have G_NumberK : GMK prog w K mg base "Number" CN 6 2 ["root", "bottom"] (spNumI CN CF) := ⟨_, _, _, _, PySem.W.mg_of X G aN, MkN, Kni, okN⟩
  obtain ⟨its_Number2root, mv_Number2root, K_Number2root⟩ := kb_Number2root Fni
  have G_Number2root : GMKg prog w K mg base "Number" CN 6 2 ["root"] (fun vs zs => vs ++ zs ++ [V.int 1]) (spNumI CN CF) := ⟨_, _, _, _, PySem.W.mg_of X G aN, MkN, K_Number2root, okN⟩
  obtain ⟨its_Number1bottom, mv_Number1bottom, K_Number1bottom⟩ := kb_Number1bottom Fni
  have G_Number1bottom : GMKg prog w K mg base "Number" CN 6 1 ["bottom"] (fun vs zs => vs ++ [V.int 0] ++ [V.int 0] ++ zs) (spNumI CN CF) := ⟨_, _, _, _, PySem.W.mg_of X G aN, MkN, K_Number1bottom, okN⟩
  have Ft9 := fun_mk (st := topS 22) lt9 ct9 kt9
  have Bt9 := Ft9.binds (ps := ["value"]) fun _ _ _ _ _ _ us hl => match us, hl with | [_], _ => rfl
  have G_is_like_number : GD prog w K mg base "is_like_number" 3 (spLike CN) := ⟨_, _, _, PySem.W.mg_of X G at9, kt9, Bt9, PF.ok_is_like Ft9 fr T G_is_whole⟩
  have Ft10 := fun_mk (st := topS 23) lt10 ct10 kt10
  have Bt10 := Ft10.binds (ps := ["value"]) fun _ _ _ _ _ _ us hl => match us, hl with | [_], _ => rfl
  have G_number_of : GD prog w K mg base "number_of" 8 (spNumOf CN) := ⟨_, _, _, PySem.W.mg_of X G at10, kt10, Bt10, PF.ok_number_of Ft10 fr T G_Form G_Number⟩
  have Ft11 := fun_mk (st := topS 24) lt11 ct11 kt11
  have Bt11 := Ft11.binds (ps := ["value"]) fun _ _ _ _ _ _ us hl => match us, hl with | [_], _ => rfl
  have G_required : GD prog w K mg base "required" 9 (spNumOf CN) := ⟨_, _, _, PySem.W.mg_of X G at11, kt11, Bt11, PF.ok_required Ft11 G_is_like_number G_number_of⟩
  have Ft12 := fun_mk (st := topS 25) lt12 ct12 kt12
  have Bt12 := Ft12.binds (ps := ["one", "other"]) fun _ _ _ _ _ _ us hl => match us, hl with | [_, _], _ => rfl
  have G_common_root : GD prog w K mg base "common_root" 2 (spCommon CN) := ⟨_, _, _, PySem.W.mg_of X G at12, kt12, Bt12, PF.ok_common_root Ft12 T⟩
  have Fsub := fun_mk (st := (inClass (topS 21) 14)) lsub csub ksub
  have Bsub := Fsub.binds (ps := ["self", "other"]) fun _ _ _ _ _ _ us hl => match us, hl with | [_, _], _ => rfl
  have G_sub : GB prog w K mg base CN .Sub 9 (spBin CN subN fun _ _ => True) := ⟨⟨_, asub, isub, fnR_of (PF.ok_sub Fsub fr T G_is_like_number G_number_of G_common_root G_Form G_Number) Bsub⟩, sfN, ⟨_, _, _, rcsub, .inl rfl, fosub, rosub, suN⟩⟩
  have Fm_compared := fun_mk (st := (inClass (topS 21) 11)) lm_compared cm_compared km_compared
  have Bm_compared := Fm_compared.binds (ps := ["self", "other"]) fun _ _ _ _ _ _ us hl => match us, hl with | [_, _], _ => rfl
  have M_compared : GMe prog w K mg base CN "compared" 10 (spCmp CN) := ⟨_, ⟨am_compared, im_compared, km_compared⟩, fnR_of (PF.ok_compared Fm_compared fr T G_required G_common_root G_sign_of_sum) Bm_compared⟩
  have Feq := fun_mk (st := (inClass (topS 21) 17)) leq ceq keq
  have Beq := Feq.binds (ps := ["self", "other"]) fun _ _ _ _ _ _ us hl => match us, hl with | [_, _], _ => rfl
  have G_eq : GE prog w K mg base CN 2 (spEq K CN) := ⟨⟨_, aeq, ieq, fnR_of (PF.ok_eq Feq fr T) Beq⟩, ne, cmN⟩
  have Fp_sign := fun_mk (st := (inClass (topS 21) 7)) lp_sign cp_sign kp_sign
  have Bp_sign := Fp_sign.binds (ps := ["self"]) fun _ _ _ _ _ _ us hl => match us, hl with | [_], _ => rfl
  have P_sign : GP prog w K mg base CN "sign" 4 (spInt CN fun n => sgnSum n.t n.p n.r) := ⟨_, _, ap_sign, sp_sign, tp_sign, ⟨_, rp_sign⟩, fnR_of (PF.ok_sign Fp_sign T G_sign_of_sum) Bp_sign⟩
  have Fp_floor := fun_mk (st := (inClass (topS 21) 8)) lp_floor cp_floor kp_floor
  have Bp_floor := Fp_floor.binds (ps := ["self"]) fun _ _ _ _ _ _ us hl => match us, hl with | [_], _ => rfl
  have P_floor : GP prog w K mg base CN "floor" 4 (spInt CN fun n => floorN n.t n.p n.r n.b) := ⟨_, _, ap_floor, sp_floor, tp_floor, ⟨_, rp_floor⟩, fnR_of (PF.ok_floor Fp_floor T G_floor_of) Bp_floor⟩
  have Fstr := fun_mk (st := (inClass (topS 21) 18)) lstr cstr kstr
  have Bstr := Fstr.binds (ps := ["self"]) fun _ _ _ _ _ _ us hl => match us, hl with | [_], _ => rfl
  have S_str : GS prog w K mg base CN 3 (spStr CN) := ⟨_, astr, istr, fnR_of (PF.ok_str Fstr fr T G_told_number) Bstr⟩
  have O : OTxt K CN := ⟨fun t ht => by
    simp only [List.mem_cons, List.not_mem_nil, or_false] at ht
    rcases ht with rfl | rfl | rfl | rfl | rfl | rfl | rfl
    · exact ⟨kit_own rfl icN tyN suN, nf_of suN⟩
    · exact ⟨kit_own rfl icN tyN su_bool, nf_of su_bool⟩
    · exact ⟨kit_own rfl icN tyN su_str, nf_of su_str⟩
    · exact ⟨kit_own rfl icN tyN su_NoneType, nf_of su_NoneType⟩
    · exact ⟨kit_own rfl icN tyN su_list, nf_of su_list⟩
    · exact ⟨kit_own rfl icN tyN su_tuple, nf_of su_tuple⟩
    · exact ⟨kit_own rfl icN tyN su_dict, nf_of su_dict⟩⟩
  have Ft13 := fun_mk (st := topS 30) lt13 ct13 kt13
  have Bt13 := Ft13.binds (ps := ["_law_script", "_law_spot"]) fun _ _ _ _ _ _ us hl => match us, hl with | [_, _], _ => rfl
  have G__law_dice : GD prog w K mg base "_law_dice" 2 (spDice K) := ⟨_, _, _, PySem.W.mg_of X G at13, kt13, Bt13, PF.ok_dice Ft13 fr⟩
  have Ft14 := fun_mk (st := topS 31) lt14 ct14 kt14
  have Bt14 := Ft14.binds (ps := ["_law_dice_here", "_law_total"]) fun _ _ _ _ _ _ us hl => match us, hl with | [_, _], _ => rfl
  have G__law_roll : GD prog w K mg base "_law_roll" 2 spRoll := ⟨_, _, _, PySem.W.mg_of X G at14, kt14, Bt14, PF.ok_roll Ft14 fr⟩
  have Ft15 := fun_mk (st := topS 32) lt15 ct15 kt15
  have Bt15 := Ft15.binds (ps := ["_law_dice_here", "_law_items"]) fun _ _ _ _ _ _ us hl => match us, hl with | [_, _], _ => rfl
  have G__law_pick : GD prog w K mg base "_law_pick" 3 spPick := ⟨_, _, _, PySem.W.mg_of X G at15, kt15, Bt15, PF.ok_pick Ft15 fr G__law_roll⟩
  have Ft16 := fun_mk (st := topS 33) lt16 ct16 kt16
  have Bt16 := Ft16.binds (ps := ["_law_dice_here", "_law_items"]) fun _ _ _ _ _ _ us hl => match us, hl with | [_, _], _ => rfl
  have G__law_mixed : GD prog w K mg base "_law_mixed" 3 (spOfD (aCons (rLs (rTx K (aCons rInt (aCons rInt (aCons rInt (aCons rInt aNil)))))) aNil) (rLs (rTx K (aCons rInt (aCons rInt (aCons rInt (aCons rInt aNil)))))) m__law_mixed) := ⟨_, _, _, PySem.W.mg_of X G at16, kt16, Bt16, PF2.ok__law_mixed Ft16 fr G__law_roll⟩
  have Ft17 := fun_mk (st := topS 34) lt17 ct17 kt17
  have Bt17 := Ft17.binds (ps := ["_law_pair", "_law_root"]) fun _ _ _ _ _ _ us hl => match us, hl with | [_, _], _ => rfl
  have G__law_sign : GD prog w K mg base "_law_sign" 2 (spOf (aCons (rTx K (aCons rInt (aCons rInt aNil))) (aCons rInt aNil)) rInt m__law_sign) := ⟨_, _, _, PySem.W.mg_of X G at17, kt17, Bt17, PF2.ok__law_sign Ft17 fr⟩
  have Ft18 := fun_mk (st := topS 35) lt18 ct18 kt18
  have Bt18 := Ft18.binds (ps := ["_law_dice_here", "_law_root"]) fun _ _ _ _ _ _ us hl => match us, hl with | [_, _], _ => rfl
  have G__law_parts_drawn : GD prog w K mg base "_law_parts_drawn" 4 (spOfD (aCons rInt aNil) (rTx K (aCons rInt (aCons rInt (aCons rInt (aCons rInt aNil))))) m__law_parts_drawn) := ⟨_, _, _, PySem.W.mg_of X G at18, kt18, Bt18, PF2.ok__law_parts_drawn Ft18 G__law_pick G__law_roll⟩
  have Ft19 := fun_mk (st := topS 36) lt19 ct19 kt19
  have Bt19 := Ft19.binds (ps := ["_law_parts"]) fun _ _ _ _ _ _ us hl => match us, hl with | [_], _ => rfl
  have G__law_made : GD prog w K mg base "_law_made" 8 (spOf (aCons (rTx K (aCons rInt (aCons rInt (aCons rInt (aCons rInt aNil))))) aNil) (rNum CN) m__law_made) := ⟨_, _, _, PySem.W.mg_of X G at19, kt19, Bt19, PF2.ok__law_made Ft19 G_NumberK⟩
  have Ft20 := fun_mk (st := topS 37) lt20 ct20 kt20
  have Bt20 := Ft20.binds (ps := ["_law_one", "_law_other", "_law_root"]) fun _ _ _ _ _ _ us hl => match us, hl with | [_, _, _], _ => rfl
  have G__law_beside : GD prog w K mg base "_law_beside" 3 (spOf (aCons (rTx K (aCons rInt (aCons rInt (aCons rInt (aCons rInt aNil))))) (aCons (rTx K (aCons rInt (aCons rInt (aCons rInt (aCons rInt aNil))))) (aCons rInt aNil))) rInt m__law_beside) := ⟨_, _, _, PySem.W.mg_of X G at20, kt20, Bt20, PF2.ok__law_beside Ft20 G__law_sign⟩
  have Ft21 := fun_mk (st := topS 38) lt21 ct21 kt21
  have Bt21 := Ft21.binds (ps := ["_law_dice_here", "_law_root"]) fun _ _ _ _ _ _ us hl => match us, hl with | [_, _], _ => rfl
  have G__law_near : GD prog w K mg base "_law_near" 3 (spOfD (aCons rInt aNil) (rTx K (aCons rInt (aCons rInt (aCons rInt (aCons rInt aNil))))) m__law_near) := ⟨_, _, _, PySem.W.mg_of X G at21, kt21, Bt21, PF2.ok__law_near Ft21 fr G__law_roll⟩
  have Ft22 := fun_mk (st := topS 39) lt22 ct22 kt22
  have Bt22 := Ft22.binds (ps := ["_law_dice_here", "_law_root"]) fun _ _ _ _ _ _ us hl => match us, hl with | [_, _], _ => rfl
  have G__law_row : GD prog w K mg base "_law_row" 5 (spOfD (aCons rInt aNil) (rLs (rTx K (aCons rInt (aCons rInt (aCons rInt (aCons rInt aNil)))))) m__law_row) := ⟨_, _, _, PySem.W.mg_of X G at22, kt22, Bt22, PF2.ok__law_row Ft22 G__law_near fr G__law_pick G__law_parts_drawn G__law_roll G__law_mixed⟩
  have Ft23 := fun_mk (st := topS 40) lt23 ct23 kt23
  have Bt23 := Ft23.binds (ps := ["_law_dice_here"]) fun _ _ _ _ _ _ us hl => match us, hl with | [_], _ => rfl
  have G__law_right : GG prog w K mg base "_law_right" 11 1 (spOfD aNil rBl m__law_right) := ⟨_, PySem.W.mg_of X G at23, kt23, PF2.ok__law_right Ft23 Bt23 G__law_pick G__law_row G__law_made fr G__law_beside T M_compared G_eq G_sub P_sign G__law_roll G_Number P_floor S_str O⟩
  have Ft24 := fun_mk (st := topS 41) lt24 ct24 kt24
  have Bt24 := Ft24.binds (ps := ["_law_script"]) fun _ _ _ _ _ _ us hl => match us, hl with | [_], _ => rfl
  exact PF2.ok_law Ft24 Bt24 fr T G__law_dice G__law_right G_Number2root G_Number1bottom M_compared
end PF2
namespace PF
open PySem PySem.Spec PyProof.Rows L2 SlX

theorem walk_k {l : PySem.W.OpenLaw} {n k : Nat} {q : Program} {loose : List Str} {XP : (Str → Option Value) → Heap → Prop} {YP : World → Heap → Prop} {d : DefRec} {K : Params → PySem.W.Frag} {sp : PySem.W.Frag → Sp}
    (hn : l.most = some n) (hn2 : n ≤ sizeLine) (hdf : d.params.defaults = []) (hr : Room k callerA) (hY : ∀ (w : World) (h : Heap), YP w h → (K w.params).In h)
    (hsp : ∀ (K : PySem.W.Frag) (G : Hp) (a : Addr) (ns : List Int), ns.length ≤ n → Only G → SqL K G a (ns.map V.int) → sp K [.ref a] G (fun v _ => v = .bl true) E0)
    (F : ∀ (w : World) (mg : Str → Option Value) (fa : Addr) (h : Heap), (K w.params).In h → h.Ns mainGlobals mg → mg d.name = some (.ref fa) → ∀ base : Heap, (K w.params).In base → base.Ns mainGlobals mg → FnG l.prog w (K w.params) mg base k fa 1 (sp (K w.params))) :
    PySem.W.WalkO q loose XP YP l.row.toRowW d [] (fun f vs => PySem.call f vs) :=
  walk_g hn hn2 hdf hr fun w mg fa h Y G hmg => ⟨K w.params, sp (K w.params), hY w h Y, hsp _, F w mg fa h (hY w h Y) G hmg⟩
end PF

open PySem PySem.W PyProof.Rows in
set_option maxRecDepth 100000 in
set_option maxHeartbeats 0 in
theorem PySem.Challenge.cw_pieceround_k03_numbers_compared_holds : PySem.Challenge.rw_pieceround_k03_numbers_compared.Holds := by
  w_on; o_law; k_head; (case hw => w_witness2)
  k_fill
  refine PF.walk_k (l := PySem.Challenge.rw_pieceround_k03_numbers_compared) (n := 63) (k := 23) (sp := PF2.spLaw) rfl (by decide) rfl ⟨rfl, by decide, by decide⟩ (fun w h Y => PySem.W.kIn_of Y) (fun K G a ns hl _ hS => ⟨a, ns, rfl, hS, Nat.le_trans hl (by decide), fun H' => rfl⟩) ?F
  case F =>
    intro w mg fa h KX G hmg
    refine' PF2.all_mk KX G hmg ?aN ?aF ?z_abs ?z_all ?z_bool ?z_int ?z_isinstance ?z_len ?z_list ?z_max ?z_min ?z_range ?z_repr ?z_str ?pgN ?icN ?poN ?saN ?caN ?cmN ?mkN ?kcN ?pgF ?icF ?poF ?saF ?caF ?cmF ?mkF ?kcF ?cn ?ct ?saNtop ?sgNtop ?stNtop ?syNtop ?sxNtop ?saNpart ?sgNpart ?stNpart ?syNpart ?sxNpart ?saNroot ?sgNroot ?stNroot ?syNroot ?sxNroot ?saNbottom ?sgNbottom ?stNbottom ?syNbottom ?sxNbottom ?saFtop ?sgFtop ?stFtop ?syFtop ?sxFtop ?saFpart ?sgFpart ?stFpart ?syFpart ?sxFpart ?saFroot ?sgFroot ?stFroot ?syFroot ?sxFroot ?saFbottom ?sgFbottom ?stFbottom ?syFbottom ?sxFbottom ?tyN ?tyF ?suF ?suI ?suN ?at0 ?lt0 ?ct0 ?kt0 ?at1 ?lt1 ?ct1 ?kt1 ?at2 ?lt2 ?ct2 ?kt2 ?at3 ?lt3 ?ct3 ?kt3 ?at4 ?lt4 ?ct4 ?kt4 ?at5 ?lt5 ?ct5 ?kt5 ?at6 ?lt6 ?ct6 ?kt6 ?at7 ?lt7 ?ct7 ?kt7 ?afi ?lfi ?cfi ?kfi ?ifi ?at8 ?lt8 ?ct8 ?kt8 ?ani ?lni ?cni ?kni ?ini ?lT ?nDr ?nDb ?at9 ?lt9 ?ct9 ?kt9 ?at10 ?lt10 ?ct10 ?kt10 ?at11 ?lt11 ?ct11 ?kt11 ?at12 ?lt12 ?ct12 ?kt12 ?asub ?lsub ?csub ?ksub ?isub ?rcsub ?fosub ?rosub ?sfN ?am_compared ?lm_compared ?cm_compared ?km_compared ?im_compared ?aeq ?leq ?ceq ?keq ?ieq ?ne ?ap_sign ?sp_sign ?tp_sign ?rp_sign ?lp_sign ?cp_sign ?kp_sign ?ap_floor ?sp_floor ?tp_floor ?rp_floor ?lp_floor ?cp_floor ?kp_floor ?astr ?lstr ?cstr ?kstr ?istr ?su_bool ?su_str ?su_NoneType ?su_list ?su_tuple ?su_dict ?at13 ?lt13 ?ct13 ?kt13 ?at14 ?lt14 ?ct14 ?kt14 ?at15 ?lt15 ?ct15 ?kt15 ?at16 ?lt16 ?ct16 ?kt16 ?at17 ?lt17 ?ct17 ?kt17 ?at18 ?lt18 ?ct18 ?kt18 ?at19 ?lt19 ?ct19 ?kt19 ?at20 ?lt20 ?ct20 ?kt20 ?at21 ?lt21 ?ct21 ?kt21 ?at22 ?lt22 ?ct22 ?kt22 ?at23 ?lt23 ?ct23 ?kt23 ?at24 ?lt24 ?ct24 ?kt24 ?gLEAST_ROOT ?gMAX_ROOT
    (case aN => k_is)
    (case aF => k_is)
    (case z_abs => k_is)
    (case z_all => k_is)
    (case z_bool => k_is)
    (case z_int => k_is)
    (case z_isinstance => k_is)
    (case z_len => k_is)
    (case z_list => k_is)
    (case z_max => k_is)
    (case z_min => k_is)
    (case z_range => k_is)
    (case z_repr => k_is)
    (case z_str => k_is)
    (case pgN => k_is)
    (case icN => k_is)
    (case poN => k_is)
    (case saN => k_is)
    (case caN => k_is)
    (case cmN => k_is)
    (case mkN => k_is)
    (case kcN => k_is)
    (case pgF => k_is)
    (case icF => k_is)
    (case poF => k_is)
    (case saF => k_is)
    (case caF => k_is)
    (case cmF => k_is)
    (case mkF => k_is)
    (case kcF => k_is)
    (case cn => k_is)
    (case ct => k_is)
    (case saNtop => k_is)
    (case sgNtop => k_is)
    (case stNtop => k_is)
    (case syNtop => k_is)
    (case sxNtop => k_is)
    (case saNpart => k_is)
    (case sgNpart => k_is)
    (case stNpart => k_is)
    (case syNpart => k_is)
    (case sxNpart => k_is)
    (case saNroot => k_is)
    (case sgNroot => k_is)
    (case stNroot => k_is)
    (case syNroot => k_is)
    (case sxNroot => k_is)
    (case saNbottom => k_is)
    (case sgNbottom => k_is)
    (case stNbottom => k_is)
    (case syNbottom => k_is)
    (case sxNbottom => k_is)
    (case saFtop => k_is)
    (case sgFtop => k_is)
    (case stFtop => k_is)
    (case syFtop => k_is)
    (case sxFtop => k_is)
    (case saFpart => k_is)
    (case sgFpart => k_is)
    (case stFpart => k_is)
    (case syFpart => k_is)
    (case sxFpart => k_is)
    (case saFroot => k_is)
    (case sgFroot => k_is)
    (case stFroot => k_is)
    (case syFroot => k_is)
    (case sxFroot => k_is)
    (case saFbottom => k_is)
    (case sgFbottom => k_is)
    (case stFbottom => k_is)
    (case syFbottom => k_is)
    (case sxFbottom => k_is)
    (case tyN => k_is)
    (case tyF => k_is)
    (case suF => k_is)
    (case suI => k_is)
    (case suN => k_is)
    (case at0 => k_is)
    (case lt0 => k_is)
    (case ct0 => k_is)
    (case kt0 => k_is)
    (case at1 => k_is)
    (case lt1 => k_is)
    (case ct1 => k_is)
    (case kt1 => k_is)
    (case at2 => k_is)
    (case lt2 => k_is)
    (case ct2 => k_is)
    (case kt2 => k_is)
    (case at3 => k_is)
    (case lt3 => k_is)
    (case ct3 => k_is)
    (case kt3 => k_is)
    (case at4 => k_is)
    (case lt4 => k_is)
    (case ct4 => k_is)
    (case kt4 => k_is)
    (case at5 => k_is)
    (case lt5 => k_is)
    (case ct5 => k_is)
    (case kt5 => k_is)
    (case at6 => k_is)
    (case lt6 => k_is)
    (case ct6 => k_is)
    (case kt6 => k_is)
    (case at7 => k_is)
    (case lt7 => k_is)
    (case ct7 => k_is)
    (case kt7 => k_is)
    (case afi => k_is)
    (case lfi => k_is)
    (case cfi => k_is)
    (case kfi => k_is)
    (case ifi => k_is)
    (case at8 => k_is)
    (case lt8 => k_is)
    (case ct8 => k_is)
    (case kt8 => k_is)
    (case ani => k_is)
    (case lni => k_is)
    (case cni => k_is)
    (case kni => k_is)
    (case ini => k_is)
    (case lT => k_is)
    (case nDr => k_is)
    (case nDb => k_is)
    (case at9 => k_is)
    (case lt9 => k_is)
    (case ct9 => k_is)
    (case kt9 => k_is)
    (case at10 => k_is)
    (case lt10 => k_is)
    (case ct10 => k_is)
    (case kt10 => k_is)
    (case at11 => k_is)
    (case lt11 => k_is)
    (case ct11 => k_is)
    (case kt11 => k_is)
    (case at12 => k_is)
    (case lt12 => k_is)
    (case ct12 => k_is)
    (case kt12 => k_is)
    (case asub => k_is)
    (case lsub => k_is)
    (case csub => k_is)
    (case ksub => k_is)
    (case isub => k_is)
    (case rcsub => k_is)
    (case fosub => k_is)
    (case rosub => k_is)
    (case sfN => k_is)
    (case am_compared => k_is)
    (case lm_compared => k_is)
    (case cm_compared => k_is)
    (case km_compared => k_is)
    (case im_compared => k_is)
    (case aeq => k_is)
    (case leq => k_is)
    (case ceq => k_is)
    (case keq => k_is)
    (case ieq => k_is)
    (case ne => k_is)
    (case ap_sign => k_is)
    (case sp_sign => k_is)
    (case tp_sign => k_is)
    (case rp_sign => k_is)
    (case lp_sign => k_is)
    (case cp_sign => k_is)
    (case kp_sign => k_is)
    (case ap_floor => k_is)
    (case sp_floor => k_is)
    (case tp_floor => k_is)
    (case rp_floor => k_is)
    (case lp_floor => k_is)
    (case cp_floor => k_is)
    (case kp_floor => k_is)
    (case astr => k_is)
    (case lstr => k_is)
    (case cstr => k_is)
    (case kstr => k_is)
    (case istr => k_is)
    (case su_bool => k_is)
    (case su_str => k_is)
    (case su_NoneType => k_is)
    (case su_list => k_is)
    (case su_tuple => k_is)
    (case su_dict => k_is)
    (case at13 => k_is)
    (case lt13 => k_is)
    (case ct13 => k_is)
    (case kt13 => k_is)
    (case at14 => k_is)
    (case lt14 => k_is)
    (case ct14 => k_is)
    (case kt14 => k_is)
    (case at15 => k_is)
    (case lt15 => k_is)
    (case ct15 => k_is)
    (case kt15 => k_is)
    (case at16 => k_is)
    (case lt16 => k_is)
    (case ct16 => k_is)
    (case kt16 => k_is)
    (case at17 => k_is)
    (case lt17 => k_is)
    (case ct17 => k_is)
    (case kt17 => k_is)
    (case at18 => k_is)
    (case lt18 => k_is)
    (case ct18 => k_is)
    (case kt18 => k_is)
    (case at19 => k_is)
    (case lt19 => k_is)
    (case ct19 => k_is)
    (case kt19 => k_is)
    (case at20 => k_is)
    (case lt20 => k_is)
    (case ct20 => k_is)
    (case kt20 => k_is)
    (case at21 => k_is)
    (case lt21 => k_is)
    (case ct21 => k_is)
    (case kt21 => k_is)
    (case at22 => k_is)
    (case lt22 => k_is)
    (case ct22 => k_is)
    (case kt22 => k_is)
    (case at23 => k_is)
    (case lt23 => k_is)
    (case ct23 => k_is)
    (case kt23 => k_is)
    (case at24 => k_is)
    (case lt24 => k_is)
    (case ct24 => k_is)
    (case kt24 => k_is)
    (case gLEAST_ROOT => k_is)
    (case gMAX_ROOT => k_is)
