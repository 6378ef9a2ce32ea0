import PyProof.Rows.All
import Wide.All
import OpenK.AllK
import Wide.FinOn
import PyProof.InstSpecial
import KE.KOpsOwn
import KE.KExcInit
import HandS.ForExc
import HandS.Comp
import HandS.Wide
import HandS.WideBits
import HandS.Slots
import HandS.SlotsOwn
import HandS.MakeKwOnly
import HandS.MakeKw
import HandS.Defaults
import HandS.More
import HandS.IsInst
import HandS.Flow
import HandS.Conv
import HandS.Codes
import PyProof.ReprRoads
import HandS.NoneIn
import PySem.Challenge.RW_pieceround_k02_whole_numbers_reckoned
set_option Elab.async false
set_option linter.all false
set_option maxRecDepth 100000
set_option maxHeartbeats 4000000
namespace PF
open PySem PySem.Spec PyProof.Rows L2 SlX

/-! ### own operators of slotted instances -/
section
variable {X : Cx} {CX : CXT} {C g : Addr} {n : Nat} {sp : Sp} {E : XK}
/-- // by any divisor other than 0 of fewer than 9000 bits -/
def CDvz (_ j : Int) : Prop := j ≠ 0 ∧ j.natAbs.log2 < 9000
theorem op_fdivZ : OpR X (binaryOp .FloorDiv) (rI CDvz fun i j => .int (i.fdiv j)) :=
  opI fun _ _ _ _ _ _ _ c k => floordiv_int c.1 k (.inl (PyProof.noPylong_of_log2 c.2))

/-- x op y, both instances of the class at C -/
def rBinS (C : Addr) (sp : Sp) (E : XK) : R2 := fun x y H Q => ∃ a dx vs b dy ws, x = .ref a ∧ y = .ref b ∧ Slt H a C dx vs ∧ Slt H b C dy ws ∧ sp [x, y] H Q E
/-- x op i, x an instance, i an integer -/
def rBinI (C : Addr) (sp : Sp) (E : XK) : R2 := fun x y H Q => ∃ a dx vs i, x = .ref a ∧ y = .int i ∧ Slt H a C dx vs ∧ sp [x, y] H Q E
theorem op_binS {op : Operator} (h1 : PySem.W.selfFirst X.K C = true) (h2 : PySem.W.findIn X.K (.ref C) (PySem.dunder op.info.2) = some (some (.ref g))) (h3 : PySem.W.isFn X.K (.ref g) = true)
    (F : FnR X.prog X.w X.K X.mg X.base CX n g sp) (hr : Room n X.A) (hx : Passes CX X E) : OpR X (binaryOp op) (rBinS C sp E) := by
  intro pins st sg HH x y v u Qk J rx ry k
  obtain ⟨a, dx, vs, b, dy, ws, rfl, rfl, sa, sb, k⟩ := k
  cases (show v = Value.ref a from rx)
  cases (show u = Value.ref b from ry)
  obtain ⟨_, _, _, ja, _⟩ := slt_inst J sa
  obtain ⟨_, _, _, jb, _⟩ := slt_inst J sb
  obtain ⟨_, fr⟩ := J.fr
  refine PySem.W.binop_K fr J.ok.mod.kin ja jb.type h1 h2 h3 ?_
  exact wpAny_mono (wpAny_call (run_fnR (us := [.ref a, .ref b]) (vs := [.ref a, .ref b]) F hr hx J (.cons rfl (.cons rfl .nil)) k))
    (fun _ _ ⟨z, H3, J3, rz, k3⟩ => cmpback rz ⟨z, H3, J3, rz, k3⟩) fun _ _ e => e
theorem op_binI {op : Operator} {fo ro rc : Option Value} (h1 : PySem.W.selfFirst X.K C = true) (h2 : PySem.W.findIn X.K (.ref C) (PySem.dunder op.info.2) = some (some (.ref g))) (h3 : PySem.W.isFn X.K (.ref g) = true)
    (h4 : PySem.W.findIn X.K (.ref C) (PySem.dunderR op.info.2) = some rc) (h5 : rc = none ∨ ∃ g : Addr, rc = some (.ref g)) (h6 : PySem.W.findIn X.K (.type "int") (PySem.dunder op.info.2) = some fo)
    (h7 : PySem.W.findIn X.K (.type "int") (PySem.dunderR op.info.2) = some ro) (h8 : PySem.W.subIn X.K (.type "int") (.ref C) = some false)
    (F : FnR X.prog X.w X.K X.mg X.base CX n g sp) (hr : Room n X.A) (hx : Passes CX X E) : OpR X (binaryOp op) (rBinI C sp E) := by
  intro pins st sg HH x y v u Qk J rx ry k
  obtain ⟨a, dx, vs, i, rfl, rfl, sa, k⟩ := k
  cases (show v = Value.ref a from rx)
  obtain ⟨t, et⟩ := (show ∃ t, u = Value.int i t from ry)
  subst et
  obtain ⟨_, _, _, ja, _⟩ := slt_inst J sa
  obtain ⟨_, fr⟩ := J.fr
  refine PySem.W.ksp_binT fr J.ok.mod.kin ja rfl h1 h2 h3 h4 h5 h6 h7 h8 ?_
  exact wpAny_mono (wpAny_call (run_fnR (us := [.ref a, .int i t]) (vs := [.ref a, .int i]) F hr hx J (.cons rfl (.cons ⟨t, rfl⟩ .nil)) k))
    (fun _ _ ⟨z, H3, J3, rz, k3⟩ => cmpback rz ⟨z, H3, J3, rz, k3⟩) fun _ _ e => e
/-- -x of an instance -/
def rNegS (C : Addr) (sp : Sp) (E : XK) : V → Hp → VK → Prop := fun x H Q => ∃ a dx vs, x = .ref a ∧ Slt H a C dx vs ∧ sp [x] H Q E
theorem un_negS (h2 : PySem.W.findIn X.K (.ref C) "__neg__" = some (some (.ref g))) (h3 : PySem.W.isFn X.K (.ref g) = true)
    (F : FnR X.prog X.w X.K X.mg X.base CX n g sp) (hr : Room n X.A) (hx : Passes CX X E) : UnR X (unaryOp .USub) (rNegS C sp E) := by
  intro pins st sg HH x v Qk J rx k
  obtain ⟨a, dx, vs, rfl, sa, k⟩ := k
  cases (show v = Value.ref a from rx)
  obtain ⟨_, _, _, ja, _⟩ := slt_inst J sa
  obtain ⟨_, fr⟩ := J.fr
  refine PySem.W.ksp_neg fr J.ok.mod.kin ja h2 h3 ?_
  exact wpAny_call (run_fnR (us := [.ref a]) (vs := [.ref a]) F hr hx J (.cons rfl .nil) k)
end

/-! ### x != y by an own == -/
section
variable {prog : Program} {w : World} {A : Around} {E : Value → Shared → Prop} {s : Shared} {K : PySem.W.Frag} {x C f : Addr} {ox : Obj} {od : Option Obj} {b tb : Value}
open PySem.W in
theorem bound_blt {M : Model} {name : Str} {T : String} {id : String} {args : List Value} {Q : Option Value → Shared → Prop} (X : K.In s.heap) (I : InstAt s.heap x ox C od) (h1 : findIn K (.ref C) name = some (some (.builtin id))) (S : Slot T name id)
    (h : wpAny M A (call (.builtin id) (.ref x :: args)) (fun v => Q (some v)) E s) : wpAny M A (callSpecialIfBound? (.ref x) name args) Q E s := by
  have one : wpAny M A (call (.builtin id) ([.ref x] ++ args) >>= fun v => pure (some v)) Q E s := wpAny_bind (wpAny_mono h (fun _ _ k => wpAny_pure k) fun _ _ k => k)
  simp only [callSpecialIfBound?, bindSpecialIfBound?]
  refine wpAny_holding (wpAny_bind (wpAny_bind (wpAny_bind (I.type.here ((looks_findIn X h1).here ?_)))))
  simp only [S.bind]
  refine wpAny_bind (wpAny_askSetting (wpAny_ite ?_))
  split
  · exact wpAny_bind (wpAny_pure (wpAny_pure one))
  · exact wpAny_tryCatch (wpAny_bind (wpAny_pure (wpAny_pure one)))
open PySem.W in
theorem ne_slot {Q : Value → Shared → Prop} (hu : A.units + 1 < cLine) (X : K.In s.heap) (I : InstAt s.heap x ox C od) (hb : Looks (model prog w) s.heap (typeOf b) tb) (hn : notFirst K C tb = true)
    (h1 : findIn K (.ref C) "__ne__" = some (some (.builtin "object.__ne__"))) (h2 : findIn K (.ref C) "__eq__" = some (some (.ref f))) (h3 : isFn K (.ref f) = true) (h4 : mroIn K C (.type "object") = some true)
    (h : wpAny (model prog w) A.in1 (call (.ref f) [.ref x, b]) (fun v s' => ∃ c, v = Value.bool c ∧ Q (.bool (!c)) s') E s) : wpAny (model prog w) A (compareOp .NotEq (.ref x) b) Q E s := by
  have sub : Looks (model prog w) s.heap (isInstance (.ref x) (.type "object")) true := I.type.andThen (looks_mroIn X h4)
  have S := PySem.F.slot_object_ne
  have two : wpAny (model prog w) A (tryCompare (.ref x) "__ne__" b) (fun r s' => ∃ v, r = some v ∧ Q v s') E s := by
    unfold tryCompare
    refine wpAny_bind (bound_blt X I h1 S ?_)
    refine wpAny_call (codeAny_call_builtin S.plain F.cmpEntry_ne (@check_slot (model prog w) _ _ s "object.__ne__" "object" "__ne__" (.ref x) [b] [] _ F.cmpKind_ne F.cmpSplit_ne sub (F.cmpArgs_ne _ _) ?_))
    unfold Builtin.«object.__ne__»
    have main : wpAny (model prog w) A.in1 (callSpecialIfBound? (.ref x) "__eq__" [b]) (fun r s' => ∃ c, r = some (Value.bool c) ∧ Q (.bool (!c)) s') E s :=
      ifBound_K X I h2 h3 (wpAny_mono h (fun v s' hv => by
        obtain ⟨c, rfl, hq⟩ := hv
        exact ⟨c, rfl, hq⟩) fun _ _ e => e)
    repeat (first
      | with_reducible refine wpAny_cRoomFor hu ?_
      | (refine wpAny_bind (m := callSpecialIfBound? (.ref x) (Str.ofString "__eq__") [b]) (wpAny_mono main (fun r s' hr => ?_) fun _ _ e => e)
         obtain ⟨c, rfl, hq⟩ := hr)
      | with_reducible refine wpAny_truthy_bool ?_
      | wp_step)
    all_goals exact ⟨_, rfl, hq⟩
  have fin : ∀ k : Option Value → Sem Value, (∀ v s', Q v s' → wpAny (model prog w) A (k (some v)) Q E s') → wpAny (model prog w) A (tryCompare (.ref x) "__ne__" b >>= k) Q E s := fun k hk =>
    wpAny_bind (wpAny_mono two (fun _ s' ⟨v, e, hq⟩ => e ▸ hk v s' hq) fun _ _ e => e)
  unfold compareOp richCompare; simp only [oneThing_ref]
  refine wpAny_holding (wpAny_bind (wpAny_cRoomFor (by omega) (wpAny_bind (I.type.here (wpAny_bind (hb.here ?_))))))
  split
  · next q =>
    have e : subIn K tb (.ref C) = some false := (Bool.or_eq_true_iff.mp hn).elim (fun z => absurd q (by rw [beq_iff_eq.mp z]; simp)) beq_iff_eq.mp
    refine wpAny_bind (looks_subIn X e |>.here ?_); simp only [Bool.false_eq_true, if_false]
    exact fin _ fun v s' hq => wpAny_pure hq
  · refine wpAny_bind (wpAny_pure ?_); simp only [Bool.false_eq_true, if_false]
    exact fin _ fun v s' hq => wpAny_pure hq
end
end PF

set_option Elab.async false
set_option linter.all false
set_option maxRecDepth 100000
set_option maxHeartbeats 4000000
namespace PF
open PySem PySem.Spec PyProof.Rows L2 SlX

/-! ### defs whose callers are known to stand outside of every repr: A.guards is some [] -/
/-- the def at f keeps its promise wherever no repr is running; it raises nothing -/
def FnG (P : Program) (w : World) (K : PySem.W.Frag) (mg : Str → Option Value) (base : Heap) (k : Nat) (f : Addr) (m : Nat) (sp : Sp) : Prop :=
  ∀ (Ar : Around) (out : List Env) (st : Shared) (G : Hp) (us : List Value) (vs : List V) (R : VK), Ar.guards = some [] → Room k Ar → Env0 P w K mg base Ar out st G → vs.length = m → Vals vs us → sp vs G R E0 →
    codeAny (model P w) Ar (.call (.ref f) ⟨us, []⟩) (CR CX0 out P w G st R E0) st
section
variable {P : Program} {w : World} {K : PySem.W.Frag} {mg : Str → Option Value} {base : Heap} {k : Nat} {f : Addr} {fd : FuncData} {N ps : List Str} {sp : Sp}
theorem FnG.mono {j : Nat} {m : Nat} (F : FnG P w K mg base j f m sp) (h : j ≤ k) : FnG P w K mg base k f m sp := fun Ar out st G us vs R a b => F Ar out st G us vs R a (b.mono h)
theorem FnG.of (F : FnOk P w K mg base CX0 k f fd ps sp) (b : Binds K fd ps []) : FnG P w K mg base k f ps.length sp := fun Ar out st G us vs R _ hr e0 hl r h => by
  have KX : K.In st.heap := e0.mod.kin.keeps fun b o e => (e0.bs b o e).1
  have l2 : us.length = ps.length := r.length.symm.trans hl
  have b2 := b st us KX (by simpa using l2)
  rw [List.append_nil] at b2
  exact F.run Ar out st G ⟨us, []⟩ us vs R E0 hr e0 b2 r h
/-- THE RULE: by the body -/
theorem Fun.okG {x qual : Str} {sm : Stmt} (F : Fun K x qual sm f fd) (S : FnScope N ps (defScope sm)) (b : Binds K fd ps [])
    (body : ∀ (cdv : Value) (Ar : Around) (out : List Env) (st : Shared) (G : Hp) (vs : List V) (R : VK), Ar.guards = some [] → Room k (Ar.deeper (envOfC qual (defScope sm) st.heap.objs.size f cdv)) → sp vs G R E0 →
      ∃ t, PSs (cxOf CX0 P w K mg base N qual (defScope sm) f cdv Ar out st G E0).nox (defBody sm) t ∧ t { nx := fun _ H' => R .non H', rt := R } (start N vs) G) : FnG P w K mg base (k + 1) f ps.length sp := by
  intro Ar out st G us vs R hg hr e0 hl r hsp
  obtain ⟨oc, od, kV, doc, pm, an, cdv, ct, osl, rfl, lk, hcd⟩ := F.ex
  have KX : K.In st.heap := e0.mod.kin.keeps fun b o e => (e0.bs b o e).1
  have l2 : us.length = ps.length := r.length.symm.trans hl
  have b2 := b st us KX (by simpa using l2)
  rw [List.append_nil] at b2
  have kinds : ∀ y ∈ ps.zip us, (defScope sm).names.lookup y.1 = some .local ∨ ((defScope sm).names.lookup y.1 = some .cell ∧ ((cellsFrom (st.heap.objs.size + 1) (defScope sm).names []).lookup y.1).isSome = true) := fun y hy =>
    (S.par y.1 (List.of_mem_zip (a := y.1) (b := y.2) hy).1).imp id fun q => ⟨q, PySem.W.cellsFrom_some _ _ _ (.inl q)⟩
  refine codeAny_call_function hr.depth (KX _ _ lk) rfl S.co S.gen rfl (PySem.W.codeRec_of KX hcd) (b2 _ _ _ _ (wpAny_newFunctionEnv_cells S.kind kinds fun ev hev s1 x => ?_))
  subst hev
  refine ⟨(e0.mod.nolimit.keeps fun b o e => (e0.bs b o e).1).keeps x.toInCall.keep, codeAny_func ?_⟩
  obtain ⟨t, ht, hq⟩ := body cdv Ar out st G vs R hg (hr.deeper _) hsp
  have J : Inv (cxOf CX0 P w K mg base N qual (defScope sm) f cdv Ar out st G E0) [] (start N vs) G s1 := inv_start S hr.hd e0 hl r x
  refine wpAny_mono (ht.nox.run [] s1 (start N vs) G _ J hq) (fun fl s' hs => ?_) fun _ _ z => z
  cases fl with
  | ret u => obtain ⟨v, _, G', J', rv, q⟩ := hs; exact ⟨v, G', J'.os, J'.bare, J'.base, J'.hok, rv, q⟩
  | next => obtain ⟨_, G', J', q⟩ := hs; exact ⟨V.non, G', J'.os, J'.bare, J'.base, J'.hok, rfl, q⟩
  | brk => obtain ⟨_, _, _, q⟩ := hs; exact q.elim
  | cont => obtain ⟨_, _, _, q⟩ := hs; exact q.elim
end
section
variable {X : Cx} {k m : Nat} {f : Addr} {sp : Sp} {x : Str} {p pos : Pos} {e : Expr} {es : List Expr} {t : TA}
theorem run_fnG {pins : List (Addr × Obj)} {st : Shared} {sg : L2.St} {G : Hp} {R : VK} {us : List Value} {vs : List V} (F : FnG X.prog X.w X.K X.mg X.base k f m sp) (hg : X.A.guards = some []) (hr : Room k X.A)
    (J : Inv X pins sg G st) (r : Vals vs us) (hl : vs.length = m) (h : sp vs G R E0) : wpAny (model X.prog X.w) X.A (call (.ref f) us) (EP X pins sg R) X.xe st := by
  refine wpAny_call (codeAny_mono (F X.A X.stack st G us vs R hg hr J.env0 hl r h) fun rr s' hq => ?_)
  cases rr with
  | error e => exact hq.elim
  | ok fl => cases fl with
    | ret u => exact J.after hq
    | next => exact hq.elim
    | brk => exact hq.elim
    | cont => exact hq.elim
/-- f(e, ..) -/
theorem pe_g (F : FnG X.prog X.w X.K X.mg X.base k f m sp) (hg : X.A.guards = some []) (hr : Room k X.A) (gm : X.mg x = some (.ref f)) (kp : PySem.W.keepIn X.K (.ref f) = true) (hm : (e :: es).length = m) (ha : PA X (e :: es) t)
    (ht : ∀ σ H (Q : List V → Hp → Prop), t σ H Q → t σ H fun vs H1 => vs.length = m ∧ Q vs H1) (gl : Gl X x := by rfl) (hdb : (x == ("__debug__" : Str)) = false := by decide)
    (he : starEach (e :: es) X.env = (false, eval e X.env) :: starEach es X.env := by rfl) (hpl : (backTo pos (starEach es X.env)).any (·.1) = false := by rfl) : PE X (.Call (.Name x p) (e :: es) [] pos) (tCall sp [] E0 t) := by
  refine ⟨fun pins st sg G R J h => wpAny_Call_Name_kw (ld_glob J gl gm ?_ hdb)⟩
  refine PySem.W.callWith_K (h₀ := X.base) J.ok.mod.kin kp (thn (ha.run pos pins st sg G _ J (ht _ _ _ h)) fun us s1 ⟨vs, G1, J1, r, hl, q⟩ => ⟨J1.kIn, ?_⟩) he hpl
  rw [List.append_nil] at q
  exact run_fnG F hg hr J1 r hl q
/-! ### repr of data -/
/-- repr(x), x some data -/
def rRepr (K : PySem.W.Frag) : List V → Hp → VK → Prop := fun xs H Q => ∃ v d, xs = [v] ∧ Dp K H v d ∧ d.showable = true ∧ d.hasDict = false ∧ d.shown.length ≤ sizeLine ∧ d.depth ≤ 64 ∧ Q (.str d.shown) H
theorem call_repr (hg : X.A.guards = some []) (hu : X.A.units + 100 < cLine) : CallR X (.builtin "repr") (rRepr X.K) := by
  intro pins st sg G xs us R J r h
  obtain ⟨v, d, rfl, hd, h1, h2, h3, h4, q⟩ := h
  obtain ⟨u, rfl, ru⟩ := r.one
  obtain ⟨as, rd⟩ := Dp.reads J d v u hd ru
  cases rd with
  | none => exact PySem.P.repr_of_none ⟨V.str (PyData.shown .none), G, J.tok _, ⟨_, rfl⟩, q⟩
  | bool b => exact PySem.P.repr_of_bool ⟨V.str (PyData.shown (.bool b)), G, J.tok _, ⟨_, rfl⟩, q⟩
  | int i t => exact PySem.P.repr_of_int (by simpa [PyData.showable] using h1) ⟨V.str (PyData.shown (.int i)), G, J.tok _, ⟨_, rfl⟩, q⟩
  | str x t => exact PySem.P.repr_of_str ⟨V.str (PyData.shown (.str x)), G, J.tok _, ⟨_, rfl⟩, q⟩ (by simpa only [PyData.shown] using h3)
  | list a1 a2 a3 a4 =>
    exact repr_of_reads' (.list a1 a2 a3 a4) h1 (fun z => by rw [h2] at z; cases z) hg (by omega) (fun _ _ e => e) (fun h' u tk hk => ⟨V.str (PyData.shown _), G, J.kept hk, ⟨_, rfl⟩, q⟩) h3
  | tuple a1 a2 a3 a4 =>
    exact repr_of_reads' (.tuple a1 a2 a3 a4) h1 (fun z => by rw [h2] at z; cases z) hg (by omega) (fun _ _ e => e) (fun h' u tk hk => ⟨V.str (PyData.shown _), G, J.kept hk, ⟨_, rfl⟩, q⟩) h3
  | dict _ _ _ _ _ => cases h2
end
/-! ### the law's end, where the law's own def wants to know that no repr is running -/
theorem law_end {P : Program} {w : World} {K : PySem.W.Frag} {mg mb : Str → Option Value} {k : Nat} {fa a : Addr} {sp : Sp} {st : Shared} {vs : List Value} {ns : List Int}
    (KX : K.In st.heap) (g1 : st.heap.Ns mainGlobals mg) (g2 : st.heap.Ns builtinsNs mb) (g3 : ∀ x : Str, x ≠ "__name__" → mb x = bootBuiltins x) (lim : st.heap.NoLimit) (gn : st.gens = #[])
    (ha : st.heap.get? a = some { cls := .type "list", data := .seq vs.toArray }) (hi : IntsAre vs ns) (hl : ns.length ≤ sizeLine) (hr : Room k callerA)
    (F : ∀ base : Heap, K.In base → base.Ns mainGlobals mg → FnG P w K mg base k fa 1 sp)
    (hsp : ∀ G : Hp, Only G → SqL K G a (ns.map V.int) → sp [.ref a] G (fun v _ => v = .bl true) E0) :
    codeAny (model P w) callerA (.call (.ref fa) ⟨[.ref a], []⟩) (fun r s' => r = .ok (.ret (.bool true)) ∧ OldK st.heap s'.heap ∧ s'.os = st.os ∧ AllBare s'.gens) st := by
  have rv := vals_ints hi
  have lv := hi.length
  have core : ∀ G : Hp, Only G → SqL K G a (ns.map V.int) → HOk P w G st.heap → (∀ b u, G b = some u → b = a ∧ K.lookup a = none) →
      codeAny (model P w) callerA (.call (.ref fa) ⟨[.ref a], []⟩) (fun r s' => r = .ok (.ret (.bool true)) ∧ OldK st.heap s'.heap ∧ s'.os = st.os ∧ AllBare s'.gens) st := by
    intro G hO hS ok hA
    have free : ∀ b o, st.heap.get? b = some o → (∀ n, o.data ≠ .seq vs.toArray n) ∨ K.lookup b = some o → G b = none := fun b o e z => by
      cases q : G b with
      | none => rfl
      | some u =>
        obtain ⟨rfl, hk⟩ := hA b u q
        rcases z with z | z
        · rw [ha] at e; cases e; exact absurd rfl (z _)
        · rw [hk] at z; cases z
    have nsK : ∀ {b : Addr} {m : Str → Option Value}, st.heap.Ns b m → (hidT st.heap G).Ns b m := fun ⟨o, es, ep, e, d, r⟩ =>
      ⟨o, es, ep, hidT_get e (free _ o e (.inl fun n z => by rw [d] at z; cases z)), d, r⟩
    have kb : K.In (hidT st.heap G) := fun b o e => hidT_get (KX b o e) (free b o (KX b o e) (.inr e))
    have M : Mod K mg (hidT st.heap G) := ⟨kb, nsK g1, ⟨mb, nsK g2, g3⟩, let ⟨mc, h1, h2⟩ := lim; ⟨mc, nsK h1, h2⟩⟩
    have e0 : Env0 P w K mg (hidT st.heap G) callerA [] st G := ⟨rfl, M, fun b o e => of_hidT e, Nat.le_of_eq (hidT_size _ _), trivial, fun b hb => (nomatch (show b ∈ ([] : List Addr) from hb)), ok, .of_eq gn⟩
    refine codeAny_mono (F _ kb (nsK g1) callerA [] st G [.ref a] [.ref a] _ rfl hr e0 rfl (.cons rfl .nil) (hsp G hO hS)) fun rr s' h => ?_
    cases rr with
    | error e => exact h.elim
    | ok fl => cases fl with
      | next => exact h.elim
      | brk => exact h.elim
      | cont => exact h.elim
      | ret u =>
        obtain ⟨v, G', os, bare, un, ok', r', q⟩ := h
        subst q
        obtain rfl : u = Value.bool true := r'
        refine ⟨rfl, OldK.of_keep fun b o e => ?_, os, bare⟩
        rcases hO b with z | ⟨ob, xs, z⟩
        · exact un.keep b o e z (fun y => (nomatch (show b ∈ ([] : List Addr) from y))) (by simp)
        · obtain ⟨e1, _⟩ := ok b _ z
          obtain ⟨e2, _⟩ := ok' b _ (un.frzs b ob _ z)
          rw [e] at e1; cases e1; exact e2
  cases hk : K.lookup a with
  | some o =>
    have e := KX a o hk
    rw [ha] at e; cases e
    exact core (fun _ => none) (fun _ => .inl rfl) (.inr ⟨_, vs.toArray, _, hk, rfl, rfl, rfl, by rw [List.size_toArray, lv]; exact hl, by simpa using rv⟩) (fun b u z => by have y : (none : Option HO) = some u := z; cases y) fun b u z => by have y : (none : Option HO) = some u := z; cases y
  | none =>
    refine core (fun b => if b = a then some (.frz { cls := .type "list", data := .seq vs.toArray } (.lst (ns.map V.int))) else none) (fun b => ?_) (.inl (.inr ⟨{ cls := .type "list", data := .seq vs.toArray }, if_pos rfl⟩)) (fun b u z => ?_) fun b u z => ?_
    · by_cases y : b = a
      · exact .inr ⟨_, _, if_pos y⟩
      · exact .inl (if_neg y)
    · by_cases y : b = a
      · have z' := (if_pos y).symm.trans z
        cases z'; subst y
        exact ⟨ha, by rw [List.length_map]; exact hl, vs, _, rv, ha⟩
      · have z' := (if_neg y).symm.trans z
        cases z'
    · by_cases y : b = a
      · exact ⟨y, hk⟩
      · have z' := (if_neg y).symm.trans z
        cases z'
theorem walk_g {l : PySem.W.OpenLaw} {n k : Nat} {q : Program} {loose : List Str} {XP : (Str → Option Value) → Heap → Prop} {YP : World → Heap → Prop} {d : DefRec}
    (hn : l.most = some n) (hn2 : n ≤ sizeLine) (hdf : d.params.defaults = []) (hr : Room k callerA)
    (F : ∀ (w : World) (mg : Str → Option Value) (fa : Addr) (h : Heap), YP w h → h.Ns mainGlobals mg → mg d.name = some (.ref fa) →
      ∃ (K : PySem.W.Frag) (sp : Sp), K.In h ∧ (∀ (G : Hp) (a : Addr) (ns : List Int), ns.length ≤ n → Only G → SqL K G a (ns.map V.int) → sp [.ref a] G (fun v _ => v = .bl true) E0) ∧
        ∀ base : Heap, K.In base → base.Ns mainGlobals mg → FnG l.prog w K mg base k fa 1 sp) :
    PySem.W.WalkO q loose XP YP l.row.toRowW d [] (fun f vs => PySem.call f vs) := by
  refine Att.attach_call hn hdf fun w _ s1 mg mb fa _ _ _ _ a vs ns Gr Y _ _ _ hmg hobj hints hlen hg => ?_
  obtain ⟨K, sp, KX, hsp, hF⟩ := F w mg fa _ Y Gr.T.g hmg
  exact law_end KX Gr.T.g Gr.T.b Gr.T.builtins Gr.T.nolimit hg hobj hints (Nat.le_trans hlen hn2) hr hF fun G hO hS => hsp G a ns hlen hO hS
end PF

set_option Elab.async false
set_option linter.all false
set_option maxRecDepth 100000
set_option maxHeartbeats 4000000
namespace PF
open PySem PySem.Spec PyProof.Rows L2 SlX

/-! ### what stands at a global name -/
/-- the module's def x: it keeps sp -/
structure GD (P : Program) (w : World) (K : PySem.W.Frag) (mg : Str → Option Value) (base : Heap) (x : Str) (k : Nat) (sp : Sp) : Prop where
  ex : ∃ f fd ps, mg x = some (.ref f) ∧ PySem.W.keepIn K (.ref f) = true ∧ Binds K fd ps [] ∧ FnOk P w K mg base CX0 k f fd ps sp
structure GG (P : Program) (w : World) (K : PySem.W.Frag) (mg : Str → Option Value) (base : Heap) (x : Str) (k m : Nat) (sp : Sp) : Prop where
  ex : ∃ f, mg x = some (.ref f) ∧ PySem.W.keepIn K (.ref f) = true ∧ FnG P w K mg base k f m sp
theorem GD.gg {P : Program} {w : World} {K : PySem.W.Frag} {mg : Str → Option Value} {base : Heap} {x : Str} {k m : Nat} {sp : Sp} (G : GD P w K mg base x k sp) (h : ∀ vs H Q E, sp vs H Q E → vs.length = m) : GG P w K mg base x k m sp := by
  obtain ⟨f, fd, ps, h1, h2, h3, h4⟩ := G.ex
  refine ⟨f, h1, h2, fun Ar out st G2 us vs R hg hr e0 hl r hs => ?_⟩
  have e : ps.length = m := (h4.len _ _ _ _ hs).symm.trans (h _ _ _ _ hs)
  exact FnG.of h4 h3 Ar out st G2 us vs R hg hr e0 (hl.trans e.symm) r hs
section
variable {X : Cx} {k m : Nat} {sp : Sp} {x : Str} {p pos : Pos} {e : Expr} {es : List Expr} {t : TA}
theorem pe_c1 (G : GD X.prog X.w X.K X.mg X.base x k sp) (hr : Room k X.A) (ha : PA X (e :: es) t) (gl : Gl X x := by rfl) (hdb : (x == ("__debug__" : Str)) = false := by decide)
    (he : starEach (e :: es) X.env = (false, eval e X.env) :: starEach es X.env := by rfl) (hpl : (backTo pos (starEach es X.env)).any (·.1) = false := by rfl) : PE X (.Call (.Name x p) (e :: es) [] pos) (tCall sp [] E0 t) := by
  obtain ⟨f, fd, ps, h1, h2, h3, h4⟩ := G.ex
  exact pe_call h4 hr gl h1 h2 h3 .nil pass0 ha hdb he hpl
theorem pe_c0 (G : GD X.prog X.w X.K X.mg X.base x k sp) (hr : Room k X.A) (gl : Gl X x := by rfl) (hdb : (x == ("__debug__" : Str)) = false := by decide) : PE X (.Call (.Name x p) [] [] pos) (tCall sp [] E0 tNil) := by
  obtain ⟨f, fd, ps, h1, h2, h3, h4⟩ := G.ex
  exact pe_call0 h4 hr gl h1 h2 h3 .nil pass0 hdb
/-- the reading of a call of a def of the kind GG: its number of arguments is told once more -/
def tCallG (sp : Sp) (m : Nat) (t : TA) : TE := fun σ H Q => t σ H fun vs H1 => vs.length = m ∧ sp vs H1 Q E0
theorem pe_gd (G : GG X.prog X.w X.K X.mg X.base x k m sp) (hg : X.A.guards = some []) (hr : Room k X.A) (ha : PA X (e :: es) t) (gl : Gl X x := by rfl) (hdb : (x == ("__debug__" : Str)) = false := by decide)
    (he : starEach (e :: es) X.env = (false, eval e X.env) :: starEach es X.env := by rfl) (hpl : (backTo pos (starEach es X.env)).any (·.1) = false := by rfl) : PE X (.Call (.Name x p) (e :: es) [] pos) (tCallG sp m t) := by
  obtain ⟨f, h1, h2, h4⟩ := G.ex
  refine ⟨fun pins st sg G R J h => wpAny_Call_Name_kw (ld_glob J gl h1 ?_ hdb)⟩
  refine PySem.W.callWith_K (h₀ := X.base) J.ok.mod.kin h2 (thn (ha.run pos pins st sg G _ J h) fun us s1 ⟨vs, G1, J1, r, hl, q⟩ => ⟨J1.kIn, ?_⟩) he hpl
  exact run_fnG h4 hg hr J1 r hl q
end
/-- the class x at C: its __init__ keeps sp; dvs: its defaults -/
structure GM (P : Program) (w : World) (K : PySem.W.Frag) (mg : Str → Option Value) (base : Heap) (x : Str) (C : Addr) (k : Nat) (dvs : List V) (sp : Sp) : Prop where
  ex : ∃ f fd ps ds, mg x = some (.ref C) ∧ Mk K C f ∧ Binds K fd ps ds ∧ Vals dvs ds ∧ FnOk P w K mg base CX0 k f fd ps sp
theorem pe_m1 {X : Cx} {k : Nat} {sp : Sp} {x : Str} {C : Addr} {dvs : List V} {p pos : Pos} {e : Expr} {es : List Expr} {t : TA} (G : GM X.prog X.w X.K X.mg X.base x C k dvs sp) (hr : Room (k + 1) X.A) (ha : PA X (e :: es) t) (gl : Gl X x := by rfl) (hdb : (x == ("__debug__" : Str)) = false := by decide)
    (he : starEach (e :: es) X.env = (false, eval e X.env) :: starEach es X.env := by rfl) (hpl : (backTo pos (starEach es X.env)).any (·.1) = false := by rfl) : PE X (.Call (.Name x p) (e :: es) [] pos) (tMake C sp dvs E0 t) := by
  obtain ⟨f, fd, ps, ds, h1, h2, h3, h4, h5⟩ := G.ex
  exact pe_make h2 h5 hr gl h1 h3 h4 pass0 ha hdb he hpl
theorem fnR_of {P : Program} {w : World} {K : PySem.W.Frag} {mg : Str → Option Value} {base : Heap} {k : Nat} {f : Addr} {fd : FuncData} {ps : List Str} {sp : Sp} (F : FnOk P w K mg base CX0 k f fd ps sp) (b : Binds K fd ps []) : FnR P w K mg base CX0 k f sp := fun Ar out st G us vs R E hr e0 r h => by
  have KX : K.In st.heap := e0.mod.kin.keeps fun b o e => (e0.bs b o e).1
  have l2 : us.length = ps.length := r.length.symm.trans (F.len _ _ _ _ h)
  have b2 := b st us KX (by simpa using l2)
  rw [List.append_nil] at b2
  exact F.run Ar out st G ⟨us, []⟩ us vs R E hr e0 b2 r h
/-- the class's property f: its getter keeps sp -/
structure GP (P : Program) (w : World) (K : PySem.W.Frag) (mg : Str → Option Value) (base : Heap) (C : Addr) (f : Str) (k : Nat) (sp : Sp) : Prop where
  ex : ∃ p g, PySem.W.findIn K (.ref C) f = some (some (.ref p)) ∧ PySem.W.specialIn K (.ref p) "__get__" = some (some (.builtin "property.__get__")) ∧ PySem.W.takesIn K (.ref p) = some true ∧ (∃ rest, PySem.W.recIn K p "property" = some (.ref g :: rest)) ∧ FnR P w K mg base CX0 k g sp
theorem pe_p1 {X : Cx} {C : Addr} {f : Str} {k : Nat} {sp : Sp} {e : Expr} {te : TE} {pos : Pos} (c : SCls X.K C) (G : GP X.prog X.w X.K X.mg X.base C f k sp) (hr : Room (k + 1) X.A) (he : PE X e te) (hb : attributeBase e f X.env (eval e X.env) = eval e X.env := by rfl) : PE X (.Attribute e f pos) (tPropSl C sp E0 te) := by
  obtain ⟨p, g, h1, h2, h3, h4, h5⟩ := G.ex
  exact pe_propSl he c h1 h2 h3 h4 h5 hr (fun _ _ _ _ h => h) hb
/-- the class's method m -/
structure GMe (P : Program) (w : World) (K : PySem.W.Frag) (mg : Str → Option Value) (base : Heap) (C : Addr) (m : Str) (k : Nat) (sp : Sp) : Prop where
  ex : ∃ g, Meth K C m g ∧ FnR P w K mg base CX0 k g sp
theorem pe_me {X : Cx} {C : Addr} {m : Str} {k : Nat} {sp : Sp} {o e : Expr} {es : List Expr} {ta : TE} {t : TA} {pos apos : Pos} {pl : Sem Bool} (c : SCls X.K C) (G : GMe X.prog X.w X.K X.mg X.base C m k sp) (hr : Room k X.A) (he : PE X o ta) (ha : PA X (e :: es) t)
    (hst : starEach (e :: es) X.env = (false, eval e X.env) :: starEach es X.env := by rfl) (hpl : (backTo pos (starEach es X.env)).any (·.1) = false := by rfl)
    (ht : eval (.Call (.Attribute o m apos) (e :: es) [] pos) X.env = (do
      let ov ← eval o X.env
      standAt apos.atName
      let (f, first) ← holding [ov] (getMethod ov m pl)
      callWith pos f first (backTo pos (starEach (e :: es) X.env)) (backToKw pos (keywordEach [] X.env))) := by rfl) : PE X (.Call (.Attribute o m apos) (e :: es) [] pos) (tMethSl C sp E0 ta t) := by
  obtain ⟨g, h1, h2⟩ := G.ex
  exact pe_methSl he c h1 h2 hr pass0 ha hst hpl ht
/-- the class's operator op: the other side an instance too, or an integer -/
structure GB (P : Program) (w : World) (K : PySem.W.Frag) (mg : Str → Option Value) (base : Heap) (C : Addr) (op : Operator) (k : Nat) (sp : Sp) : Prop where
  ex : ∃ g, PySem.W.findIn K (.ref C) (PySem.dunder op.info.2) = some (some (.ref g)) ∧ PySem.W.isFn K (.ref g) = true ∧ FnR P w K mg base CX0 k g sp
  first : PySem.W.selfFirst K C = true
  right : ∃ fo ro rc, PySem.W.findIn K (.ref C) (PySem.dunderR op.info.2) = some rc ∧ (rc = none ∨ ∃ g : Addr, rc = some (.ref g)) ∧ PySem.W.findIn K (.type "int") (PySem.dunder op.info.2) = some fo ∧ PySem.W.findIn K (.type "int") (PySem.dunderR op.info.2) = some ro ∧ PySem.W.subIn K (.type "int") (.ref C) = some false
def rBin (C : Addr) (sp : Sp) : R2 := fun x y H Q => (∃ a dx vs, x = .ref a ∧ Slt H a C dx vs) ∧ ((∃ b dy ws, y = .ref b ∧ Slt H b C dy ws) ∨ ∃ i, y = .int i) ∧ sp [x, y] H Q E0
theorem op_b {X : Cx} {C : Addr} {op : Operator} {k : Nat} {sp : Sp} (G : GB X.prog X.w X.K X.mg X.base C op k sp) (hr : Room k X.A) : OpR X (binaryOp op) (rBin C sp) := by
  obtain ⟨g, h1, h2, h3⟩ := G.ex
  obtain ⟨fo, ro, rc, r1, r2, r3, r4, r5⟩ := G.right
  intro pins st sg HH x y v u Qk J rx ry k
  obtain ⟨⟨a, dx, vs, e, hs⟩, ⟨b, dy, ws, e2, hs2⟩ | ⟨i, e2⟩, k⟩ := k
  · exact op_binS G.first h1 h2 h3 hr pass0 pins st sg HH x y v u Qk J rx ry ⟨a, dx, vs, b, dy, ws, e, e2, hs, hs2, k⟩
  · exact op_binI G.first h1 h2 r1 r2 r3 r4 r5 h3 hr pass0 pins st sg HH x y v u Qk J rx ry ⟨a, dx, vs, i, e, e2, hs, k⟩
structure GN (P : Program) (w : World) (K : PySem.W.Frag) (mg : Str → Option Value) (base : Heap) (C : Addr) (k : Nat) (sp : Sp) : Prop where
  ex : ∃ g, PySem.W.findIn K (.ref C) "__neg__" = some (some (.ref g)) ∧ PySem.W.isFn K (.ref g) = true ∧ FnR P w K mg base CX0 k g sp
theorem un_n {X : Cx} {C : Addr} {k : Nat} {sp : Sp} (G : GN X.prog X.w X.K X.mg X.base C k sp) (hr : Room k X.A) : UnR X (unaryOp .USub) (rNegS C sp E0) := by
  obtain ⟨g, h1, h2, h3⟩ := G.ex
  exact un_negS h1 h2 h3 hr pass0
structure GE (P : Program) (w : World) (K : PySem.W.Frag) (mg : Str → Option Value) (base : Heap) (C : Addr) (k : Nat) (sp : Sp) : Prop where
  ex : ∃ g, PySem.W.findIn K (.ref C) "__eq__" = some (some (.ref g)) ∧ PySem.W.isFn K (.ref g) = true ∧ FnR P w K mg base CX0 k g sp
  ne : PySem.W.findIn K (.ref C) "__ne__" = some (some (.builtin "object.__ne__"))
  ob : PySem.W.mroIn K C (.type "object") = some true
/-! ### slots whose places are known -/
def tSlC (C : Addr) (i : Nat) (ta : TE) : TE := fun σ H Q => ta σ H fun x H1 => ∃ a dx vs v, x = .ref a ∧ Slt H1 a C dx vs ∧ vs[i]? = some (some v) ∧ Q v H1
def sSlC (C : Addr) (i : Nat) (ta tv : TE) : TS := fun D σ H => tv σ H fun y H1 => ta σ H1 fun x H2 => ∃ a dx vs, x = .ref a ∧ Slt H2 a C dx vs ∧ D.nx σ (slH H2 a C dx (putS i y vs))
section
variable {X : Cx} {o e value : Expr} {f : Str} {pos pos' : Pos} {ta tv te : TE} {C p : Addr} {i : Nat}
theorem pe_slC (c : SCls X.K C) (s : ∃ p, Slot1 X.K C f p i) (he : PE X e te) (hb : attributeBase e f X.env (eval e X.env) = eval e X.env := by rfl) : PE X (.Attribute e f pos) (tSlC C i te) := by
  refine ⟨fun pins st sg G R J h => attr_of hb (thn (he.run pins st sg G _ J h) fun u s1 ⟨x, G1, J1, rx, a, dx, vs, v, ex, hs, hv, q⟩ => ?_)⟩
  obtain ⟨p, s⟩ := s
  subst ex
  obtain rfl : u = Value.ref a := rx
  exact getslot_ok J1 hs c s hv fun u' s2 J2 ru => ⟨v, G1, J2, ru, q⟩
theorem ps_slC (c : SCls X.K C) (s : ∃ p, Slot1 X.K C f p i) (ha : PE X o ta) (hv : PE X value tv) (hs : swapsWith value (some (.Attribute o f pos')) pos.line X.env = pure false := by rfl) : PS X (.Assign [.Attribute o f pos'] value pos) (sSlC C i ta tv) := by
  refine ⟨fun pins st sg G D J h => ?_⟩
  refine plainObj_wpAny_Assign_Attribute (thn (hv.run pins st sg G _ J h) fun u s1 ⟨y, G1, J1, ry, q⟩ => thn (ha.run pins s1 sg G1 _ J1 q) fun ov s2 ⟨x, G2, J2, rx, a, dx, vs, ex, hsl, q2⟩ => ?_) hs
  obtain ⟨p, s⟩ := s
  subst ex
  obtain rfl : ov = Value.ref a := rx
  exact setslot_ok J2 hsl c s ry fun s3 J3 => ⟨sg, _, J3, q2⟩
end
theorem hu64 {A : Around} {k : Nat} (hr : Room k A) : A.units + 64 < cLine := by have := hr.un; omega
theorem hu100 {A : Around} {k : Nat} (hr : Room k A) : A.units + 100 < cLine := by have := hr.un; omega

theorem ite_dec {c : Prop} [Decidable c] {A B : Prop} (h : c → A) (k : ¬ c → B) : if decide c = true then A else B := by
  by_cases z : c
  · rw [decide_eq_true z, if_pos rfl]; exact h z
  · rw [decide_eq_false z, if_neg Bool.false_ne_true]; exact k z
theorem ite_ndec {c : Prop} [Decidable c] {A B : Prop} (h : ¬ c → A) (k : c → B) : if (!decide c) = true then A else B := by
  by_cases z : c
  · rw [decide_eq_true z]; exact k z |> fun y => by simpa using y
  · rw [decide_eq_false z]; have y := h z; simpa using y
/-! ### isinstance of any value -/
/-- the type of a value: as of TyX, or an instance with slots -/
inductive TyY (K : PySem.W.Frag) (H : Hp) : V → Value → Prop where
  | x {v : V} {t : Value} (h : TyX K H v t) : TyY K H v t
  | slt {a C dx : Addr} {vs : List (Option V)} (h : Slt H a C dx vs) (c : SCls K C) (i : SIsi K C) : TyY K H (.ref a) (.ref C)
def rIsiU (K : PySem.W.Frag) : List V → Hp → VK → Prop := fun xs H Q => ∃ (x c : V) (t u : Value) (b : Bool), xs = [x, c] ∧ ClsV c u ∧ TyY K H x t ∧ PySem.W.kitOne K t u = some b ∧ Q (.bl b) H
theorem call_isiU {X : Cx} : CallR X (.builtin "isinstance") (rIsiU X.K) := by
  intro pins st sg G xs us R J r h
  obtain ⟨x, c, t, u, b, rfl, hc, ty, hk, q⟩ := h
  cases ty with
  | x ty => exact call_isi pins st sg G _ us R J r ⟨x, c, t, u, b, rfl, hc, ty, hk, q⟩
  | slt hs c' i => exact call_isiSl u pins st sg G _ us R J r ⟨_, _, _, _, c, b, rfl, by cases hc <;> rfl, fun w rw => hc.eq rw, hs, c', i, hk, q⟩
theorem TyY.looks {X : Cx} {pins : List (Addr × Obj)} {sg : L2.St} {G : Hp} {st : Shared} {v : V} {t u : Value} (J : Inv X pins sg G st) (r : RelV v u) (ty : TyY X.K G v t) : PySem.W.Looks (model X.prog X.w) st.heap (typeOf u) t := by
  cases ty with
  | x ty => obtain ⟨Pk, Z, p, _⟩ := kit_of J r ty; exact Z.ty _ _ J.kIn p
  | slt hs c i => cases (show u = Value.ref _ from r); obtain ⟨_, _, _, ja, _⟩ := slt_inst J hs; exact ja.type
/-! ### x == y, x != y, x with slots and an own == -/
section
variable {X : Cx} {CX : CXT} {C g : Addr} {n : Nat} {sp : Sp} {E : XK}
def rCmpS (K : PySem.W.Frag) (C : Addr) (neg : Bool) (sp : Sp) (E : XK) : R2 := fun x y H Q => ∃ a dx vs t, x = .ref a ∧ Slt H a C dx vs ∧ TyY K H y t ∧ PySem.W.notFirst K C t = true ∧ sp [x, y] H (fun z H' => ∃ c, z = .bl c ∧ Q (.bl (if neg then !c else c)) H') E
theorem op_eqS (h2 : PySem.W.findIn X.K (.ref C) "__eq__" = some (some (.ref g))) (h3 : PySem.W.isFn X.K (.ref g) = true) (F : FnR X.prog X.w X.K X.mg X.base CX n g sp) (hr : Room n X.A) (hx : Passes CX X E) : OpR X (compareOp .Eq) (rCmpS X.K C false sp E) := by
  intro pins st sg HH x y v u Qk J rx ry k
  obtain ⟨a, dx, vs, t, rfl, sa, ty, hn, k⟩ := k
  cases (show v = Value.ref a from rx)
  obtain ⟨_, _, _, ja, _⟩ := slt_inst J sa
  obtain ⟨_, fr⟩ := J.fr
  show wpAny _ _ (richCompare .Eq (.ref a) u) _ _ _
  refine PySem.W.cmp_K (op := .Eq) hr.units0 fr J.ok.mod.kin ja (ty.looks J ry) hn h2 h3 ?_
  refine wpAny_mono (wpAny_call (run_fnR (us := [.ref a, u]) (vs := [.ref a, y]) F hr hx J (.cons rfl (.cons ry .nil)) k)) (fun _ _ ⟨z, H3, J3, rz, c, ez, k3⟩ => ?_) fun _ _ e => e
  subst ez
  exact cmpback rz ⟨_, H3, J3, rz, k3⟩
theorem op_neS (h1 : PySem.W.findIn X.K (.ref C) "__ne__" = some (some (.builtin "object.__ne__"))) (h2 : PySem.W.findIn X.K (.ref C) "__eq__" = some (some (.ref g))) (h3 : PySem.W.isFn X.K (.ref g) = true) (h4 : PySem.W.mroIn X.K C (.type "object") = some true)
    (F : FnR X.prog X.w X.K X.mg X.base CX n g sp) (hr : Room (n + 1) X.A) (hx : Passes CX X E) : OpR X (compareOp .NotEq) (rCmpS X.K C true sp E) := by
  intro pins st sg HH x y v u Qk J rx ry k
  obtain ⟨a, dx, vs, t, rfl, sa, ty, hn, k⟩ := k
  cases (show v = Value.ref a from rx)
  obtain ⟨_, _, _, ja, _⟩ := slt_inst J sa
  refine ne_slot (by have := hr.un; omega) J.kIn ja (ty.looks J ry) hn h1 h2 h3 h4 ?_
  refine wpAny_mono (wpAny_call (run_at (A := X.A.in1) (us := [.ref a, u]) (ws := [.ref a, y]) F hr.in1 J.env0.in1 hx J (.cons rfl (.cons ry .nil)) k)) (fun _ _ ⟨z, H3, J3, rz, c, ez, k3⟩ => ?_) fun _ _ e => e
  subst ez
  cases (show _ = Value.bool c from rz)
  exact ⟨c, rfl, .bl (!c), H3, J3, rfl, k3⟩
end
theorem op_eqE {X : Cx} {C : Addr} {k : Nat} {sp : Sp} (G : GE X.prog X.w X.K X.mg X.base C k sp) (hr : Room k X.A) : OpR X (compareOp .Eq) (rCmpS X.K C false sp E0) := by
  obtain ⟨g, h1, h2, h3⟩ := G.ex
  exact op_eqS h1 h2 h3 hr pass0
theorem op_neE {X : Cx} {C : Addr} {k : Nat} {sp : Sp} (G : GE X.prog X.w X.K X.mg X.base C k sp) (hr : Room (k + 1) X.A) : OpR X (compareOp .NotEq) (rCmpS X.K C true sp E0) := by
  obtain ⟨g, h1, h2, h3⟩ := G.ex
  exact op_neS G.ne h1 h2 G.ob h3 hr pass0
end PF

set_option Elab.async false
set_option linter.all false
set_option maxRecDepth 100000
set_option maxHeartbeats 4000000
namespace PF
open PySem PySem.Spec PyProof.Rows L2 SlX
/-! ### plain numbers -/
/-- an integer of fewer than n bits -/
def Bd (n : Nat) (i : Int) : Prop := i.natAbs < 2 ^ n
theorem Bd.mono {n m : Nat} {i : Int} (h : Bd n i) (l : n ≤ m) : Bd m i := Nat.lt_of_lt_of_le h (Nat.pow_le_pow_right (by decide) l)
theorem Bd.mul {n m : Nat} {i j : Int} (h : Bd n i) (k : Bd m j) : Bd (n + m) (i * j) := wide_lt h k
theorem Bd.add {n m : Nat} {i j : Int} (h : Bd n i) (k : Bd n j) (l : n + 1 = m) : Bd m (i + j) := by
  unfold Bd at *; subst l; rw [Nat.pow_succ]; omega
theorem Bd.sub {n m : Nat} {i j : Int} (h : Bd n i) (k : Bd n j) (l : n + 1 = m) : Bd m (i - j) := by
  unfold Bd at *; subst l; rw [Nat.pow_succ]; omega
theorem Bd.neg {n : Nat} {i : Int} (h : Bd n i) : Bd n (-i) := by unfold Bd at *; omega
theorem Bd.le {n : Nat} {i j : Int} (h : Bd n j) (l : i.natAbs ≤ j.natAbs) : Bd n i := Nat.lt_of_le_of_lt l h
theorem Bd.mulx {n m : Nat} {i j : Int} (h : Bd n i) (k : Bd m j) (l : n + m ≤ 134217728) : CMulX i j := mulx_ok h k l
theorem Bd.dvz {n : Nat} {i j : Int} (h : Bd n j) (h0 : j ≠ 0) (l : n ≤ 9000) : CDvz i j := by
  refine ⟨h0, ?_⟩
  have a : j.natAbs ≠ 0 := by omega
  have b := (Nat.log2_lt a).mpr h
  omega
theorem bd_sm {i : Int} {n : Nat} (h : i.natAbs < 1024) (l : 10 ≤ n) : Bd n i := Nat.lt_of_lt_of_le h (Nat.le_trans (show 1024 ≤ 2 ^ 10 by decide) (Nat.pow_le_pow_right (by decide) l))

structure Nm where
  t : Int
  p : Int
  r : Int
  b : Int
deriving DecidableEq
def gcd3 (t p b : Int) : Int := ((Nat.gcd (Nat.gcd t.natAbs p.natAbs) b.natAbs : Nat) : Int)
def share (t p b : Int) : Int := if 0 < b then gcd3 t p b else -gcd3 t p b
def mkNm (t p r b : Int) : Nm := ⟨t.fdiv (share t p b), p.fdiv (share t p b), if p = 0 then 0 else r, b.fdiv (share t p b)⟩
def b2 (c : Bool) : Int := if c then 1 else 0
def sgn (v : Int) : Int := b2 (decide (0 < v)) - b2 (decide (v < 0))
def sgnSum (t p r : Int) : Int := if p = 0 then sgn t else if 0 ≤ sgn t * sgn p then sgn p else sgn t * sgn (t * t - p * p * r)
def isq (n : Nat) : Nat := if h : n = 0 then 0 else if (2 * isq (n / 4) + 1) * (2 * isq (n / 4) + 1) ≤ n then 2 * isq (n / 4) + 1 else 2 * isq (n / 4)
termination_by n
decreasing_by all_goals omega
theorem isq_ok (n : Nat) : isq n * isq n ≤ n ∧ n < (isq n + 1) * (isq n + 1) := by
  induction n using Nat.strongRecOn with
  | ind n ih =>
    rw [isq]
    split
    · next h => subst h; decide
    · next h =>
      obtain ⟨h1, h2⟩ := ih (n / 4) (by omega)
      generalize isq (n / 4) = q at *
      have e1 : (2 * q) * (2 * q) = 4 * (q * q) := by grind
      have e2 : (2 * q + 1 + 1) * (2 * q + 1 + 1) = 4 * ((q + 1) * (q + 1)) := by grind
      split
      · next h3 => exact ⟨h3, by rw [e2]; omega⟩
      · next h3 => exact ⟨by rw [e1]; omega, by omega⟩
def floorN (t p r b : Int) : Int := if p = 0 then t.fdiv b else (t + (if 0 < p then (isq (p * p * r).toNat : Int) else -(isq (p * p * r).toNat : Int) - 1)).fdiv b
def isRootB (v : Int) : Bool := decide (2 ≤ v) && decide (v ≤ 999) && ((List.range (isq v.toNat - 1)).map fun i : Nat => !decide (v.fmod ((2 + (i : Int)) * (2 + (i : Int))) = 0)).all id
theorem isq_le {n q : Nat} (h : n < (q + 1) * (q + 1)) : isq n ≤ q := by
  have h1 := (isq_ok n).1
  refine Nat.le_of_not_lt fun l => ?_
  have := Nat.mul_le_mul (show q + 1 ≤ isq n from l) (show q + 1 ≤ isq n from l)
  omega
theorem le_isq {n q : Nat} (h : q * q ≤ n) : q ≤ isq n := by
  have h1 := (isq_ok n).2
  refine Nat.le_of_not_lt fun l => ?_
  have := Nat.mul_le_mul (show isq n + 1 ≤ q from l) (show isq n + 1 ≤ q from l)
  omega
/-- Newton's step stays above the root -/
theorem newton_ge {a f r : Nat} (hf : 0 < f) (hr : r * r ≤ a) : r ≤ (f + a / f) / 2 := by
  have h1 : a < (a / f + 1) * f := Nat.lt_mul_of_div_lt (Nat.lt_succ_self _) hf
  generalize a / f = q at *
  refine Nat.le_of_not_lt fun l => ?_
  have l2 : f + (q + 1) ≤ 2 * r := by omega
  have l3 := Nat.mul_le_mul l2 l2
  have e : (f + (q + 1)) * (f + (q + 1)) + 0 = (f + (q + 1)) * (f + (q + 1)) := rfl
  rcases Nat.le_total f (q + 1) with c | c
  · obtain ⟨d, hd⟩ := Nat.exists_eq_add_of_le c
    rw [hd] at l3 h1
    have : (f + (f + d)) * (f + (f + d)) = 4 * ((f + d) * f) + d * d := by grind
    have : 2 * r * (2 * r) = 4 * (r * r) := by grind
    omega
  · obtain ⟨d, hd⟩ := Nat.exists_eq_add_of_le c
    rw [hd] at l3 h1
    have : (q + 1 + d + (q + 1)) * (q + 1 + d + (q + 1)) = 4 * ((q + 1) * (q + 1 + d)) + d * d := by grind
    have : 2 * r * (2 * r) = 4 * (r * r) := by grind
    omega
theorem newton_end {a f : Nat} (hf : 0 < f) (h : f ≤ (f + a / f) / 2) : f ≤ isq a := by
  refine le_isq ?_
  have h1 : f ≤ a / f := by omega
  exact Nat.le_trans (Nat.mul_le_mul_right f h1) (Nat.div_mul_le_self a f)
theorem isq_bits (a : Nat) {k : Nat} (h : a < 2 ^ (2 * k)) : isq a ≤ 2 ^ k := by
  refine isq_le (Nat.lt_of_lt_of_le h ?_)
  rw [show 2 * k = k + k by omega, Nat.pow_add]
  exact Nat.mul_le_mul (Nat.le_succ _) (Nat.le_succ _)
theorem b2_bd (c : Bool) : (b2 c).natAbs ≤ 1 := by cases c <;> decide
theorem sgn_abs (v : Int) : (sgn v).natAbs ≤ 1 := by
  unfold sgn b2
  by_cases h : 0 < v <;> by_cases k : v < 0 <;> simp [h, k] <;> omega
theorem sgn_bd (v : Int) : Bd 10 (sgn v) := bd_sm (by have := sgn_abs v; omega) (by decide)
/-- the root of two numbers that go together -/
def cRoot (a b : Nm) : Int := if a.r = 0 then b.r else a.r
def Cm (a b : Nm) : Prop := a.r = 0 ∨ b.r = 0 ∨ a.r = b.r
def addN (a b : Nm) : Nm := mkNm (a.t * b.b + b.t * a.b) (a.p * b.b + b.p * a.b) (cRoot a b) (a.b * b.b)
def subN (a b : Nm) : Nm := mkNm (a.t * b.b - b.t * a.b) (a.p * b.b - b.p * a.b) (cRoot a b) (a.b * b.b)
def mulN (a b : Nm) : Nm := mkNm (a.t * b.t + a.p * b.p * cRoot a b) (a.t * b.p + a.p * b.t) (cRoot a b) (a.b * b.b)
def sizeN (a b : Nm) : Int := b.t * b.t - b.p * b.p * cRoot a b
def overN (a b : Nm) : Nm := mkNm ((a.t * b.t - a.p * b.p * cRoot a b) * b.b) ((a.p * b.t - a.t * b.p) * b.b) (cRoot a b) (sizeN a b * a.b)
def negN (a : Nm) : Nm := mkNm (-a.t) (-a.p) a.r a.b
def mirN (a : Nm) : Nm := mkNm a.t (-a.p) a.r a.b
def normN (a : Nm) : Nm := mkNm (a.t * a.t - a.p * a.p * a.r) 0 0 (a.b * a.b)
/-- a number of fewer than k bits -/
structure Gd (k : Nat) (n : Nm) : Prop where
  b0 : n.b ≠ 0
  t : Bd k n.t
  p : Bd k n.p
  b : Bd k n.b
  r : Bd 10 n.r
  r0 : 0 ≤ n.r
theorem cRoot_bd {k : Nat} {a b : Nm} (h : Gd k a) (g : Gd k b) : Bd 10 (cRoot a b) := by
  unfold cRoot; split
  · exact g.r
  · exact h.r
theorem share_ne {t p b : Int} (h : b ≠ 0) : share t p b ≠ 0 := by
  unfold share gcd3
  have : 0 < Nat.gcd (Nat.gcd t.natAbs p.natAbs) b.natAbs := Nat.gcd_pos_of_pos_right _ (by omega)
  split <;> omega
theorem share_bd {t p b : Int} {n : Nat} (h : b ≠ 0) (k : Bd n b) : Bd n (share t p b) := by
  have l : Nat.gcd (Nat.gcd t.natAbs p.natAbs) b.natAbs ≤ b.natAbs := Nat.gcd_le_right _ (by omega)
  unfold Bd share gcd3 at *
  split <;> omega
end PF

set_option Elab.async false
set_option linter.all false
set_option maxRecDepth 100000
set_option maxHeartbeats 4000000
namespace PF
open PySem PySem.Spec PyProof.Rows L2 SlX
def topS (i : Nat) : Stmt := PySem.Challenge.pw_pieceround_k02_whole_numbers_reckoned.main.body.getD i (.Pass ⟨0, 0, 0, 0⟩)
/-! ### what the top has written -/
structure Free (mg : Str → Option Value) : Prop where
  b_abs : mg "abs" = none
  b_all : mg "all" = none
  b_bool : mg "bool" = none
  b_int : mg "int" = none
  b_isinstance : mg "isinstance" = none
  b_len : mg "len" = none
  b_max : mg "max" = none
  b_min : mg "min" = none
  b_range : mg "range" = none
  b_repr : mg "repr" = none
  b_str : mg "str" = none
/-! ### promises -/
def spIsWhole (K : PySem.W.Frag) : Sp := fun vs H Q _ => ∃ x t b, vs = [x] ∧ TyY K H x t ∧ PySem.W.kitOne K t (.type "int") = some b ∧ (b = true → ∃ i, x = .int i) ∧ Q (.bl b) H
def spGcd : Sp := fun vs H Q _ => ∃ a b : Int, vs = [.int a, .int b] ∧ 0 ≤ a ∧ 0 ≤ b ∧ Q (.int ((Nat.gcd a.toNat b.toNat : Nat) : Int)) H
def spRoot : Sp := fun vs H Q _ => ∃ a : Int, vs = [.int a] ∧ 0 ≤ a ∧ Bd 8000 a ∧ Q (.int (isq a.toNat : Int)) H
def spIsRoot : Sp := fun vs H Q _ => ∃ a : Int, vs = [.int a] ∧ ∀ H', Same H H' → Q (.bl (isRootB a)) H'
def spSign : Sp := fun vs H Q _ => ∃ a : Int, vs = [.int a] ∧ Q (.int (sgn a)) H
def spSignSum : Sp := fun vs H Q _ => ∃ t p r : Int, vs = [.int t, .int p, .int r] ∧ Bd 1000000 t ∧ Bd 1000000 p ∧ Bd 10 r ∧ Q (.int (sgnSum t p r)) H
def spFloor : Sp := fun vs H Q _ => ∃ t p r b : Int, vs = [.int t, .int p, .int r, .int b] ∧ Bd 3900 p ∧ 0 ≤ r ∧ Bd 10 r ∧ Bd 9000 b ∧ b ≠ 0 ∧ Q (.int (floorN t p r b)) H
section
variable {P : Program} {w : World} {K : PySem.W.Frag} {mg : Str → Option Value} {base : Heap} {f : Addr} {fd : FuncData}
theorem sc_is_whole : FnScope ["value"] ["value"] (defScope (topS 7)) := ⟨rfl, rfl, rfl, by decide +kernel, rfl, by decide +kernel, by decide +kernel⟩
theorem ok_is_whole (F : Fun K "is_whole" "is_whole" (topS 7) f fd) (fr : Free mg) : FnOk P w K mg base CX0 2 f fd ["value"] (spIsWhole K) := by
  refine F.ok sc_is_whole (fun vs H Q E ⟨_, _, _, e, _⟩ => by rw [e]; rfl) (fun cdv A outer s H vs Q E hr h => ⟨_, (pss_one (ps_ret (pe_and (pe_callB call_isiU (by rfl) fr.b_isinstance (by decide +kernel) (pa_cons (pv 0) (pa_cons (pe_bltn (v := .ty "int") (by rfl) fr.b_int (by decide +kernel) rfl) pa_nil))) (pe_one (pe_not (pe_callB call_isiU (by rfl) fr.b_isinstance (by decide +kernel) (pa_cons (pv 0) (pa_cons (pe_bltn (v := .ty "bool") (by rfl) fr.b_bool (by decide +kernel) rfl) pa_nil)))))))), ?_⟩)
  obtain ⟨x, t, b, rfl, ty, hk, hi, q⟩ := h
  refine ⟨x, rfl, x, .ty "int", t, _, b, rfl, .ty _, ty, hk, b, rfl, ?_⟩
  cases b with
  | false => exact q
  | true =>
    obtain ⟨i, rfl⟩ := hi rfl
    exact ⟨_, rfl, _, .ty "bool", _, _, false, rfl, .ty _, .x (.base (.int i)), kit_ty (by decide +kernel), false, rfl, q⟩
theorem sc_greatest_divisor : FnScope ["one", "other"] ["one", "other"] (defScope (topS 8)) := ⟨rfl, rfl, rfl, by decide +kernel, rfl, by decide +kernel, by decide +kernel⟩
theorem ok_gcd (F : Fun K "greatest_divisor" "greatest_divisor" (topS 8) f fd) : FnOk P w K mg base CX0 2 f fd ["one", "other"] spGcd := by
  refine F.ok sc_greatest_divisor (fun vs H Q E ⟨_, _, e, _⟩ => by rw [e]; rfl) (fun cdv A outer s H vs Q E hr h => ⟨_, (pss_cons (ps_while PassesOwn.never (pt_cmpR op_ne (pv 1) pe_int (nomark _)) (pss_one (ps_par (i := 0) (j := 1) (by rfl) sc_greatest_divisor.nd rfl rfl (by decide) rfl rfl (pa_cons (pv 1) (pa_cons (pe_op op_modN (pv 0) (pv 1)) pa_nil)) (by rfl))))
  (pss_one (ps_ret (pv 0)))), ?_⟩)
  obtain ⟨a, b, rfl, ha, hb, q⟩ := h
  refine ⟨fun m σ H' => ∃ x y : Int, σ = [some (.int x), some (.int y)] ∧ 0 ≤ x ∧ 0 ≤ y ∧ Nat.gcd x.toNat y.toNat = Nat.gcd a.toNat b.toNat ∧ m = y.toNat ∧ H' = H, ⟨_, a, b, rfl, ha, hb, rfl, rfl, rfl⟩, ?_⟩
  rintro m σ H' ⟨x, y, rfl, hx, hy, hg, rfl, rfl⟩
  refine ⟨_, rfl, rfl, _, rfl, ?_⟩
  by_cases c : y = 0
  · subst c
    refine ⟨_, rfl, ?_⟩
    simp only [Int.toNat_zero, Nat.gcd_zero_right] at hg
    rw [show (x : Int) = ((Nat.gcd a.toNat b.toNat : Nat) : Int) by omega]
    exact q
  · rw [decide_eq_false (show ¬ V.int y = V.int 0 from fun e => c (V.int.inj e))]
    refine ⟨fun σ' H'' => σ' = [some (.int y), some (.int (x.fmod y))] ∧ H'' = H', ?_, ?_⟩
    · rintro _ _ ⟨rfl, rfl⟩
      have e : x.fmod y = x % y := Int.fmod_eq_emod_of_nonneg x hy
      have h1 : 0 ≤ x % y := Int.emod_nonneg x c
      have h2 : x % y < y := Int.emod_lt_of_pos x (by omega)
      refine ⟨_, ?_, y, x.fmod y, rfl, hy, by omega, ?_, rfl, rfl⟩
      · rw [e]; omega
      · rw [e, ← hg, show (x % y).toNat = x.toNat % y.toNat from Int.toNat_emod hx hy, Nat.gcd_comm x.toNat y.toNat, Nat.gcd_rec y.toNat x.toNat, Nat.gcd_comm]
    · exact ⟨_, rfl, _, rfl, _, rfl, _, _, rfl, rfl, c, _, _, rfl, rfl, rfl⟩
theorem sc_whole_root : FnScope ["square", "found", "less"] ["square"] (defScope (topS 9)) := ⟨rfl, rfl, rfl, by decide +kernel, rfl, by decide +kernel, by decide +kernel⟩
theorem ok_whole_root (F : Fun K "whole_root" "whole_root" (topS 9) f fd) : FnOk P w K mg base CX0 2 f fd ["square"] spRoot := by
  refine F.ok sc_whole_root (fun vs H Q E ⟨_, e, _⟩ => by rw [e]; rfl) (fun cdv A outer s H vs Q E hr h => ⟨_, (pss_cons (ps_if (pt_cmpR op_eq (pv 0) pe_int (nomark _)) (pss_one (ps_ret pe_int)) pss_nil)
  (pss_cons (ps_set (i := 1) sc_whole_root.nd rfl (by first | exact Or.inl rfl | exact Or.inr rfl) (pe_op op_shlW pe_int (pe_op op_fdivZ (pe_op op_add (pe_bits (pv 0)) pe_int) pe_int)))
  (pss_cons (ps_whileW PassesOwn.never (ptw_cmp op_lt (pew_named (i := 2) sc_whole_root.nd rfl (by first | exact Or.inl rfl | exact Or.inr rfl) (pew_of (pe_op op_fdivZ (pe_op op_add (pv 1) (pe_op op_fdivZ (pv 0) (pv 1))) pe_int))) (pv 1) (nomark _)) (pss_one (ps_set (i := 1) sc_whole_root.nd rfl (by first | exact Or.inl rfl | exact Or.inr rfl) (pv 2))) pss_nil)
  (pss_one (ps_ret (pv 1)))))), ?_⟩)
  obtain ⟨a, rfl, ha, hb, q⟩ := h
  refine ⟨_, rfl, rfl, _, rfl, ite_dec (fun c => ?_) fun c => ?_⟩
  · cases c
    rw [show isq (0 : Int).toNat = 0 by rw [isq]; rfl] at q
    exact q
  replace c : ¬ a = 0 := fun e => c (congrArg V.int e)
  have bits : Builtin.Int.intBits a = a.natAbs.log2 + 1 := by unfold Builtin.Int.intBits; rw [if_neg (by simpa using c)]
  have lt : a.toNat < 2 ^ Builtin.Int.intBits a := by
    rw [bits, show a.toNat = a.natAbs by omega]
    exact (Nat.log2_lt (by omega)).mp (Nat.lt_succ_self _)
  have lb : Builtin.Int.intBits a ≤ 8000 := by
    rw [bits]
    exact (Nat.log2_lt (by omega)).mpr hb
  generalize hn : Builtin.Int.intBits a = n at *
  have hk : ((n : Int) + 1).fdiv 2 = (((n + 1) / 2 : Nat) : Int) := by rw [Int.fdiv_eq_ediv_of_nonneg _ (by decide)]; omega
  obtain ⟨k, ek⟩ : ∃ k, k = (n + 1) / 2 := ⟨_, rfl⟩
  rw [← ek] at hk
  have r0 : isq a.toNat ≤ 2 ^ k := isq_bits _ (Nat.lt_of_lt_of_le lt (Nat.pow_le_pow_right (by decide) (by omega)))
  refine ⟨_, rfl, _, rfl, ?_⟩
  rw [hn]
  refine ⟨_, _, rfl, rfl, _, _, rfl, rfl, ⟨by decide, by decide⟩, ?_⟩
  dsimp only
  rw [hk]
  refine ⟨_, _, rfl, rfl, ⟨by omega, by rw [show Builtin.Int.intBits 1 = 1 by decide]; omega⟩, ?_⟩
  dsimp only
  rw [Int.toNat_natCast, Int.one_mul]
  refine ⟨fun m σ H' => ∃ (g : Nat) (y : Option V), σ = [some (.int a), some (.int (g : Int)), y] ∧ 0 < g ∧ g ≤ 2 ^ k ∧ isq a.toNat ≤ g ∧ g = m ∧ H' = H, ⟨_, 2 ^ k, none, ?_, Nat.two_pow_pos k, Nat.le_refl _, r0, rfl, rfl⟩, ?_⟩
  · rw [show ((2 ^ k : Nat) : Int) = (2 : Int) ^ k by simp]; rfl
  rintro m σ H' ⟨g, y, rfl, hg, hg2, hr0, rfl, rfl⟩
  have bg : Bd 9000 (g : Int) := by
    show (g : Int).natAbs < 2 ^ 9000
    rw [Int.natAbs_natCast]
    exact Nat.lt_of_le_of_lt hg2 (Nat.pow_lt_pow_right (by decide) (by omega))
  have e1 : a.fdiv (g : Int) = ((a.toNat / g : Nat) : Int) := by
    rw [Int.fdiv_eq_ediv_of_nonneg _ (by omega), Int.natCast_ediv, Int.toNat_of_nonneg ha]
  have e2 : ((g : Int) + a.fdiv (g : Int)).fdiv 2 = (((g + a.toNat / g) / 2 : Nat) : Int) := by
    rw [e1, Int.fdiv_eq_ediv_of_nonneg _ (by decide)]; omega
  refine ⟨_, rfl, _, rfl, _, rfl, _, _, rfl, rfl, bg.dvz (by omega) (Nat.le_refl _), _, _, rfl, rfl, _, _, rfl, rfl, ⟨by decide, by decide⟩, ?_⟩
  dsimp only
  rw [e2]
  refine ⟨_, rfl, _, _, rfl, rfl, _, rfl, ?_⟩
  have n1 := newton_ge hg (isq_ok a.toNat).1
  refine ite_dec (fun c2 => ?_) fun c2 => ?_
  · refine ⟨fun σ' H'' => σ' = [some (.int a), some (.int (((g + a.toNat / g) / 2 : Nat) : Int)), some (.int (((g + a.toNat / g) / 2 : Nat) : Int))] ∧ H'' = H', ?_, ?_⟩
    · rintro _ _ ⟨rfl, rfl⟩
      refine ⟨_, (show (g + a.toNat / g) / 2 < g by omega), _, _, rfl, ?_, by omega, n1, rfl, rfl⟩
      refine Nat.lt_of_lt_of_le ?_ n1
      exact Nat.lt_of_lt_of_le Nat.zero_lt_one (le_isq (by omega))
    · exact ⟨_, rfl, rfl, rfl⟩
  · have n2 := newton_end hg (show g ≤ (g + a.toNat / g) / 2 by omega)
    refine ⟨_, rfl, ?_⟩
    rw [show (g : Int) = (isq a.toNat : Int) by omega]
    exact q
theorem sc_sign_of : FnScope ["value"] ["value"] (defScope (topS 16)) := ⟨rfl, rfl, rfl, by decide +kernel, rfl, by decide +kernel, by decide +kernel⟩
theorem ok_sign_of (F : Fun K "sign_of" "sign_of" (topS 16) f fd) (fr : Free mg) : FnOk P w K mg base CX0 2 f fd ["value"] spSign := by
  refine F.ok sc_sign_of (fun vs H Q E ⟨_, e, _⟩ => by rw [e]; rfl) (fun cdv A outer s H vs Q E hr h => ⟨_, (pss_one (ps_ret (pe_op op_sub (pe_callTy call_int1 (by rfl) fr.b_int (by decide +kernel) (pa_cons (pe_cmpR op_gt (pv 0) pe_int (nomark _)) pa_nil)) (pe_callTy call_int1 (by rfl) fr.b_int (by decide +kernel) (pa_cons (pe_cmpR op_lt (pv 0) pe_int (nomark _)) pa_nil))))), ?_⟩)
  obtain ⟨a, rfl, q⟩ := h
  exact ⟨_, rfl, _, _, rfl, rfl, .inr ⟨_, rfl, _, rfl, _, _, rfl, rfl, .inr ⟨_, rfl, _, _, rfl, rfl, q⟩⟩⟩
theorem sc_sign_of_sum : FnScope ["top", "part", "root"] ["top", "part", "root"] (defScope (topS 17)) := ⟨rfl, rfl, rfl, by decide +kernel, rfl, by decide +kernel, by decide +kernel⟩
theorem ok_sign_of_sum (F : Fun K "sign_of_sum" "sign_of_sum" (topS 17) f fd) (G_sign_of : GD P w K mg base "sign_of" 2 spSign) : FnOk P w K mg base CX0 3 f fd ["top", "part", "root"] spSignSum := by
  refine F.ok sc_sign_of_sum (fun vs H Q E ⟨_, _, _, e, _⟩ => by rw [e]; rfl) (fun cdv A outer s H vs Q E hr h => ⟨_, (pss_cons (ps_if (pt_cmpR op_eq (pv 1) pe_int (nomark _)) (pss_one (ps_ret (pe_c1 G_sign_of (hr.mono (by decide)) (pa_cons (pv 0) pa_nil)))) pss_nil)
  (pss_cons (ps_if (pt_cmpR op_ge (pe_op op_mulX (pe_c1 G_sign_of (hr.mono (by decide)) (pa_cons (pv 0) pa_nil)) (pe_c1 G_sign_of (hr.mono (by decide)) (pa_cons (pv 1) pa_nil))) pe_int (nomark _)) (pss_one (ps_ret (pe_c1 G_sign_of (hr.mono (by decide)) (pa_cons (pv 1) pa_nil)))) pss_nil)
  (pss_one (ps_ret (pe_op op_mulX (pe_c1 G_sign_of (hr.mono (by decide)) (pa_cons (pv 0) pa_nil)) (pe_c1 G_sign_of (hr.mono (by decide)) (pa_cons (pe_op op_sub (pe_op op_mulX (pv 0) (pv 0)) (pe_op op_mulX (pe_op op_mulX (pv 1) (pv 1)) (pv 2))) pa_nil))))))), ?_⟩)
  obtain ⟨t, p, r, rfl, ht, hp, hr', q⟩ := h
  unfold sgnSum at q
  refine ⟨_, rfl, rfl, _, rfl, ite_dec (fun c => ?_) fun c => ?_⟩
  · rw [if_pos (V.int.inj c)] at q
    exact ⟨_, rfl, t, rfl, q⟩
  rw [if_neg fun e => c (congrArg V.int e)] at q
  refine ⟨_, rfl, t, rfl, _, rfl, p, rfl, _, _, rfl, rfl, (sgn_bd t).mulx (sgn_bd p) (by decide), _, _, rfl, rfl, _, rfl, ite_dec (fun c => ?_) fun c => ?_⟩
  · rw [if_pos c] at q
    exact ⟨_, rfl, p, rfl, q⟩
  rw [if_neg c] at q
  exact ⟨_, rfl, t, rfl, _, rfl, _, rfl, _, _, rfl, rfl, ht.mulx ht (by decide), _, rfl, _, rfl, _, _, rfl, rfl, hp.mulx hp (by decide), _, rfl, _, _, rfl, rfl, (hp.mul hp).mulx hr' (by decide), _, _, rfl, rfl, _, rfl,
    _, _, rfl, rfl, (sgn_bd t).mulx (sgn_bd _) (by decide), q⟩
theorem sc_floor_of : FnScope ["top", "part", "root", "bottom", "below"] ["top", "part", "root", "bottom"] (defScope (topS 18)) := ⟨rfl, rfl, rfl, by decide +kernel, rfl, by decide +kernel, by decide +kernel⟩
theorem ok_floor_of (F : Fun K "floor_of" "floor_of" (topS 18) f fd) (G_whole_root : GD P w K mg base "whole_root" 2 spRoot) : FnOk P w K mg base CX0 3 f fd ["top", "part", "root", "bottom"] spFloor := by
  refine F.ok sc_floor_of (fun vs H Q E ⟨_, _, _, _, e, _⟩ => by rw [e]; rfl) (fun cdv A outer s H vs Q E hr h => ⟨_, (pss_cons (ps_if (pt_cmpR op_eq (pv 1) pe_int (nomark _)) (pss_one (ps_ret (pe_op op_fdivZ (pv 0) (pv 3)))) pss_nil)
  (pss_cons (ps_set (i := 4) sc_floor_of.nd rfl (by first | exact Or.inl rfl | exact Or.inr rfl) (pe_c1 G_whole_root (hr.mono (by decide)) (pa_cons (pe_op op_mulX (pe_op op_mulX (pv 1) (pv 1)) (pv 2)) pa_nil)))
  (pss_one (ps_ret (pe_op op_fdivZ (pe_op op_add (pv 0) (pe_ifExp (pt_cmpR op_gt (pv 1) pe_int (nomark _)) (pv 4) (pe_op op_sub (pe_un un_neg (pv 4)) pe_int))) (pv 3)))))), ?_⟩)
  obtain ⟨t, p, r, b, rfl, hp, h0, hr', hb, b0, q⟩ := h
  unfold floorN at q
  refine ⟨_, rfl, rfl, _, rfl, ite_dec (fun c => ?_) fun c => ?_⟩
  · rw [if_pos (V.int.inj c)] at q
    exact ⟨_, rfl, _, rfl, _, _, rfl, rfl, hb.dvz b0 (Nat.le_refl _), q⟩
  rw [if_neg fun e => c (congrArg V.int e)] at q
  have pp : 0 ≤ p * p := by rw [← Int.natAbs_mul_self]; omega
  have bd := (hp.mul hp).mul hr'
  refine ⟨_, rfl, _, rfl, _, _, rfl, rfl, hp.mulx hp (by decide), _, rfl, _, _, rfl, rfl, (hp.mul hp).mulx hr' (by decide), _, rfl, Int.mul_nonneg pp h0, bd.mono (by decide), ?_⟩
  refine ⟨_, rfl, _, rfl, _, _, rfl, rfl, _, rfl, ite_dec (fun c => ?_) fun c => ?_⟩
  · rw [if_pos c] at q
    exact ⟨_, rfl, _, _, rfl, rfl, _, rfl, _, _, rfl, rfl, hb.dvz b0 (Nat.le_refl _), q⟩
  · rw [if_neg c] at q
    exact ⟨_, rfl, _, rfl, _, _, rfl, rfl, _, _, rfl, rfl, _, rfl, _, _, rfl, rfl, hb.dvz b0 (Nat.le_refl _), q⟩
theorem sc_is_root : FnScope ["value", "side"] ["value"] (defScope (topS 15)) := ⟨rfl, rfl, rfl, by decide +kernel, rfl, by decide +kernel, by decide +kernel⟩
theorem ok_is_root (F : Fun K "is_root" "is_root" (topS 15) f fd) (fr : Free mg) (g_MAX_ROOT : ∃ tk, mg "MAX_ROOT" = some (.int 999 tk)) (g_LEAST_ROOT : ∃ tk, mg "LEAST_ROOT" = some (.int 2 tk))
    (G_whole_root : GD P w K mg base "whole_root" 2 spRoot) (G_is_whole : GD P w K mg base "is_whole" 2 (spIsWhole K)) : FnOk P w K mg base CX0 3 f fd ["value"] spIsRoot := by
  obtain ⟨tk1, g_MAX_ROOT⟩ := g_MAX_ROOT
  obtain ⟨tk2, g_LEAST_ROOT⟩ := g_LEAST_ROOT
  refine F.ok sc_is_root (fun vs H Q E ⟨_, e, _⟩ => by rw [e]; rfl) (fun cdv A outer s H vs Q E hr h => ⟨_, (pss_cons (ps_if (PW.pt (pw_or (pt_not (pt_val (pe_c1 G_is_whole (hr.mono (by decide)) (pa_cons (pv 0) pa_nil)))) (pw_or1 (pt_not (pt_chain op_le op_le (pe_glob (v := .int 2) rfl g_LEAST_ROOT ⟨_, rfl⟩) (pv 0) (pe_glob (v := .int 999) rfl g_MAX_ROOT ⟨_, rfl⟩)))))) (pss_one (ps_ret pe_bl)) pss_nil)
  (pss_one (ps_ret (pe_callB (cr_all rfl) (by rfl) fr.b_all (by decide +kernel) (pa_cons (pe_lc (own := [("side", 1)]) (by rfl) sc_is_root.nd (pi_range2 (by rfl) fr.b_range (pa_cons pe_int (pa_cons (pe_op op_add (pe_c1 G_whole_root (hr.mono (by decide)) (pa_cons (pv 0) pa_nil)) pe_int) pa_nil))) (blkOk_by (own := [("side", 1)]) (N := ["value", "side"]) (sc := defScope (topS 15)) (by decide +kernel)) (fun _ _ _ _ _ => (pg_name (i := 1) sc_is_root.nd rfl (by first | exact Or.inl rfl | exact Or.inr rfl))) (fun _ _ _ _ _ => pts_nil) (fun _ _ _ _ _ => (pe_cmpR op_ne (pe_op op_modN (pv 0) (pe_op op_mulX (pv 1) (pv 1))) pe_int (nomark _)))) pa_nil))))), ?_⟩)
  obtain ⟨a, rfl, q⟩ := h
  unfold isRootB at q
  refine ⟨_, rfl, .int a, _, true, rfl, .x (.base (.int a)), kit_ty (by decide +kernel), fun _ => ⟨a, rfl⟩, true, rfl, ?_⟩
  have out : ¬ (2 ≤ a ∧ a ≤ 999) → Q (.bl false) H := fun c => by
    replace q := q H (Same.refl H)
    have e : (decide (2 ≤ a) && decide (a ≤ 999)) = false := by
      rw [Bool.and_eq_false_iff, decide_eq_false_iff_not, decide_eq_false_iff_not]; omega
    rw [e, Bool.false_and] at q
    exact q
  refine ⟨_, rfl, _, _, rfl, rfl, _, rfl, ite_dec (fun c => ?_) fun c => ?_⟩
  rotate_left
  · exact ⟨_, rfl, out (fun z => c z.1)⟩
  refine ⟨_, _, rfl, rfl, _, rfl, ?_⟩
  by_cases c2 : a ≤ 999
  rotate_left
  · rw [decide_eq_false c2]
    exact out fun z => c2 z.2
  rw [decide_eq_true c, decide_eq_true c2, Bool.true_and, Bool.true_and] at q
  rw [decide_eq_true c2]
  have rb : (isq a.toNat : Int) ≤ 31 := by
    have := isq_le (n := a.toNat) (q := 31) (by omega)
    omega
  generalize hr2 : isq a.toNat = r at *
  refine ⟨_, rfl, a, rfl, by omega, bd_sm (by omega) (by decide), ?_⟩
  rw [hr2]
  refine ⟨_, _, rfl, rfl, 2, _, rfl, ⟨by decide, by decide, by omega, by omega⟩, fun D hD => ?_⟩
  have en : ((r : Int) + 1 - 2).toNat = r - 1 := by omega
  rw [en]
  refine lc_range (lo := 2) (n := r - 1) (fun i H' => Same H H' ∧ H' D = some (.lst (((List.range i).map fun i : Nat => !decide (a.fmod ((2 + (i : Int)) * (2 + (i : Int))) = 0)).map V.bl))) ⟨?_, upd_same⟩ (fun i H' hi ⟨s1, hl⟩ => ?_) fun H' ⟨s1, hl⟩ => ?_
  · intro b o e
    rw [upd_ne (ne_of_none e hD)]
    exact e
  · refine ⟨rfl, ?_⟩
    have sm : Bd 10 (2 + (i : Int)) := bd_sm (by omega) (by decide)
    have nz : (2 + (i : Int)) * (2 + (i : Int)) ≠ 0 := Int.mul_ne_zero (by omega) (by omega)
    refine ⟨_, rfl, _, rfl, _, rfl, _, _, rfl, rfl, sm.mulx sm (by decide), _, _, rfl, rfl, nz, rfl, _, hl, ?_, ?_, ?_⟩
    · rw [List.length_map, List.length_map, List.length_range, sizeLine_eq]; omega
    · exact fun b o e => by
        rw [upd_ne (ne_of_none e hD)]
        exact s1 b o e
    · rw [upd_same, List.range_succ, List.map_append, List.map_append]
      have e : decide (V.int (a.fmod ((2 + (i : Int)) * (2 + (i : Int)))) = V.int 0) = decide (a.fmod ((2 + (i : Int)) * (2 + (i : Int))) = 0) := by
        by_cases z : a.fmod ((2 + (i : Int)) * (2 + (i : Int))) = 0
        · rw [z]; rfl
        · rw [decide_eq_false z, decide_eq_false fun y => z (V.int.inj y)]
      rw [e]; rfl
  · exact ⟨D, _, rfl, .of hl, q H' s1⟩

/-! ### the classes Form and Number -/
structure NTxt (K : PySem.W.Frag) (mg : Str → Option Value) (CN CF : Addr) : Prop where
  gN : mg "Number" = some (.ref CN)
  gF : mg "Form" = some (.ref CF)
  cN : SCls K CN
  cF : SCls K CF
  yN : SIsi K CN
  yF : SIsi K CF
  sN_top : ∃ p, Slot1 K CN "own_top" p 3
  sN_part : ∃ p, Slot1 K CN "own_part" p 1
  sN_root : ∃ p, Slot1 K CN "own_root" p 2
  sN_bottom : ∃ p, Slot1 K CN "own_bottom" p 0
  sF_top : ∃ p, Slot1 K CF "own_top" p 3
  sF_part : ∃ p, Slot1 K CF "own_part" p 1
  sF_root : ∃ p, Slot1 K CF "own_root" p 2
  sF_bottom : ∃ p, Slot1 K CF "own_bottom" p 0
  iNN : PySem.W.kitOne K (.ref CN) (.ref CN) = some true
  iFF : PySem.W.kitOne K (.ref CF) (.ref CF) = some true
  iIF : PySem.W.kitOne K (.type "int") (.ref CF) = some false
  iIN : PySem.W.kitOne K (.type "int") (.ref CN) = some false
  iNI : PySem.W.kitOne K (.ref CN) (.type "int") = some false
/-- the slots of a number, of a form -/
def sl4 (n : Nm) : List (Option V) := [some (.int n.b), some (.int n.p), some (.int n.r), some (.int n.t)]
/-- v is an instance of C with these four integers -/
def At4 (C : Addr) (H : Hp) (v : V) (n : Nm) : Prop := ∃ a dx, v = .ref a ∧ Slt H a C dx (sl4 n)
theorem At4.same {C : Addr} {H H' : Hp} {v : V} {n : Nm} (h : At4 C H v n) (s : Same H H') : At4 C H' v n := by
  obtain ⟨a, dx, rfl, h⟩ := h
  refine ⟨a, dx, rfl, ?_⟩
  rcases h with ⟨_, h2⟩ | ⟨h1, h2⟩
  · cases h2
  · exact .inr ⟨s _ _ h1, s _ _ h2⟩
def okRoot (r p : Int) : Prop := (r = 0 ∧ p = 0) ∨ isRootB r = true
/-- what the numbers' own calls take -/
def Arg4 (CF : Addr) (H : Hp) (rest : List V) (n : Nm) : Prop := (∃ v, rest = [v, .int 0, .int 0, .int 1] ∧ At4 CF H v n) ∨ ∃ t p r b, rest = [.int t, .int p, .int r, .int b] ∧ b ≠ 0 ∧ okRoot r p ∧ Bd 9000 b ∧ n = mkNm t p r b
def spFormI (CF : Addr) : Sp := fun vs H Q _ => ∃ (a dx : Addr) (t p r b : Int), vs = [.ref a, .int t, .int p, .int r, .int b] ∧ dx ≠ a ∧ Slt H a CF dx [] ∧ b ≠ 0 ∧ Bd 9000 b ∧ Q .non (slH H a CF dx (sl4 (mkNm t p r b)))
def spFormIn (CF : Addr) : Sp := fun vs H Q _ => ∃ n, Arg4 CF H vs n ∧ ∀ v H', Same H H' → At4 CF H' v n → Q v H'
def spNumI (CN CF : Addr) : Sp := fun vs H Q _ => ∃ (a dx : Addr) (rest : List V) (n : Nm), vs = .ref a :: rest ∧ dx ≠ a ∧ (H a = some (.ins CN dx []) ∧ H dx = some (.own a)) ∧ Arg4 CF H rest n ∧ ∀ H1, Same H H1 → Q .non (slH H1 a CN dx (sl4 n))
section
variable {P : Program} {w : World} {K : PySem.W.Frag} {mg : Str → Option Value} {base : Heap} {f CN CF : Addr} {fd : FuncData}
theorem sc_Form___init__ : FnScope ["self", "top", "part", "root", "bottom", "common", "share"] ["self", "top", "part", "root", "bottom"] (defScope (inClass (topS 20) 1)) := ⟨rfl, rfl, rfl, by decide +kernel, rfl, by decide +kernel, by decide +kernel⟩
theorem ok_form_init (F : Fun K "__init__" "Form.__init__" (inClass (topS 20) 1) f fd) (fr : Free mg) (T : NTxt K mg CN CF) (G_greatest_divisor : GD P w K mg base "greatest_divisor" 2 spGcd) : FnOk P w K mg base CX0 3 f fd ["self", "top", "part", "root", "bottom"] (spFormI CF) := by
  refine F.ok sc_Form___init__ (fun vs H Q E ⟨_, _, _, _, _, _, e, _⟩ => by rw [e]; rfl) (fun cdv A outer s H vs Q E hr h => ⟨_, (pss_cons (ps_set (i := 5) sc_Form___init__.nd rfl (by first | exact Or.inl rfl | exact Or.inr rfl) (pe_c1 G_greatest_divisor (hr.mono (by decide)) (pa_cons (pe_c1 G_greatest_divisor (hr.mono (by decide)) (pa_cons (pe_callB call_abs (by rfl) fr.b_abs (by decide +kernel) (pa_cons (pv 1) pa_nil)) (pa_cons (pe_callB call_abs (by rfl) fr.b_abs (by decide +kernel) (pa_cons (pv 2) pa_nil)) pa_nil))) (pa_cons (pe_callB call_abs (by rfl) fr.b_abs (by decide +kernel) (pa_cons (pv 4) pa_nil)) pa_nil))))
  (pss_cons (ps_set (i := 6) sc_Form___init__.nd rfl (by first | exact Or.inl rfl | exact Or.inr rfl) (pe_ifExp (pt_cmpR op_gt (pv 4) pe_int (nomark _)) (pv 5) (pe_un un_neg (pv 5))))
  (pss_cons (ps_slC T.cF T.sF_top (pv 0) (pe_op op_fdivZ (pv 1) (pv 6)))
  (pss_cons (ps_slC T.cF T.sF_part (pv 0) (pe_op op_fdivZ (pv 2) (pv 6)))
  (pss_cons (ps_slC T.cF T.sF_root (pv 0) (pe_ifExp (pt_cmpR op_eq (pv 2) pe_int (nomark _)) pe_int (pv 3)))
  (pss_one (ps_slC T.cF T.sF_bottom (pv 0) (pe_op op_fdivZ (pv 4) (pv 6))))))))), ?_⟩)
  obtain ⟨a, dx, t, p, r, b, rfl, ne, hs, b0, hb, q⟩ := h
  have key : ∀ sh rr : Int, sh = share t p b → rr = (if p = 0 then 0 else r) → Q .non (slH (slH (slH (slH H a CF dx (putS 3 (.int (t.fdiv sh)) [])) a CF dx (putS 1 (.int (p.fdiv sh)) (putS 3 (.int (t.fdiv sh)) []))) a CF dx
      (putS 2 (.int rr) (putS 1 (.int (p.fdiv sh)) (putS 3 (.int (t.fdiv sh)) [])))) a CF dx (putS 0 (.int (b.fdiv sh)) (putS 2 (.int rr) (putS 1 (.int (p.fdiv sh)) (putS 3 (.int (t.fdiv sh)) []))))) := fun sh rr e1 e2 => by
    rw [slH_twice ne, slH_twice ne, slH_twice ne, e1, e2]; exact q
  have ab : ∀ x : Int, (if x < 0 then -x else x).toNat = x.natAbs := fun x => by split <;> omega
  have nn : ∀ x : Int, 0 ≤ (if x < 0 then -x else x) := fun x => by split <;> omega
  refine ⟨_, rfl, _, rfl, _, rfl, _, rfl, _, _, rfl, nn t, nn p, _, rfl, _, rfl, _, _, rfl, Int.natCast_nonneg _, nn b, ?_⟩
  rw [ab, ab, ab, Int.toNat_natCast]
  have dv : ∀ x sh : Int, sh = share t p b → CDvz x sh := fun x sh e => by rw [e]; exact (share_bd b0 hb).dvz (share_ne b0) (Nat.le_refl _)
  have l1 := fun vs => slH_slt (H := H) (C := CF) (vs := vs) ne
  refine ⟨_, rfl, _, _, rfl, rfl, _, rfl, ite_dec (fun c => ?_) fun c => ?_⟩
  · have e : ((Nat.gcd (Nat.gcd t.natAbs p.natAbs) b.natAbs : Nat) : Int) = share t p b := (if_pos c).symm
    refine ⟨_, rfl, _, rfl, _, rfl, _, _, rfl, rfl, dv _ _ e, _, rfl, a, dx, _, rfl, hs, _, rfl, _, rfl, _, _, rfl, rfl, dv _ _ e, _, rfl, a, dx, _, rfl, slH_slt ne, _, rfl, rfl, _, rfl, ite_dec (fun c2 => ?_) fun c2 => ?_⟩
    · exact ⟨_, rfl, a, dx, _, rfl, slH_slt ne, _, rfl, _, rfl, _, _, rfl, rfl, dv _ _ e, _, rfl, a, dx, _, rfl, slH_slt ne, key _ _ e (if_pos (V.int.inj c2)).symm⟩
    · exact ⟨_, rfl, _, rfl, a, dx, _, rfl, slH_slt ne, _, rfl, _, rfl, _, _, rfl, rfl, dv _ _ e, _, rfl, a, dx, _, rfl, slH_slt ne, key _ _ e (if_neg fun z => c2 (congrArg V.int z)).symm⟩
  · have e : -((Nat.gcd (Nat.gcd t.natAbs p.natAbs) b.natAbs : Nat) : Int) = share t p b := (if_neg c).symm
    refine ⟨_, rfl, _, rfl, _, rfl, _, rfl, _, _, rfl, rfl, dv _ _ e, _, rfl, a, dx, _, rfl, hs, _, rfl, _, rfl, _, _, rfl, rfl, dv _ _ e, _, rfl, a, dx, _, rfl, slH_slt ne, _, rfl, rfl, _, rfl, ite_dec (fun c2 => ?_) fun c2 => ?_⟩
    · exact ⟨_, rfl, a, dx, _, rfl, slH_slt ne, _, rfl, _, rfl, _, _, rfl, rfl, dv _ _ e, _, rfl, a, dx, _, rfl, slH_slt ne, key _ _ e (if_pos (V.int.inj c2)).symm⟩
    · exact ⟨_, rfl, _, rfl, a, dx, _, rfl, slH_slt ne, _, rfl, _, rfl, _, _, rfl, rfl, dv _ _ e, _, rfl, a, dx, _, rfl, slH_slt ne, key _ _ e (if_neg fun z => c2 (congrArg V.int z)).symm⟩

theorem same_made {H : Hp} {x dx C : Addr} {vs : List (Option V)} (nx : H x = none) (nd : H dx = none) : Same H (slH (upd (upd H dx (.own x)) x (.ins C dx [])) x C dx vs) := fun b o e => by
  have h1 : b ≠ x := ne_of_none e nx
  have h2 : b ≠ dx := ne_of_none e nd
  rw [slH_ne h1 h2, upd_ne h1, upd_ne h2]; exact e
theorem same_new {H : Hp} {x dx C : Addr} (nx : H x = none) (nd : H dx = none) : Same H (upd (upd H dx (.own x)) x (.ins C dx [])) := fun b o e => by
  rw [upd_ne (ne_of_none e nx), upd_ne (ne_of_none e nd)]; exact e
theorem form_made {H : Hp} {Q : VK} {t p r b : Int} (b0 : b ≠ 0) (hb : Bd 9000 b) (q : ∀ v H', Same H H' → At4 CF H' v (mkNm t p r b) → Q v H') :
    ∀ x dx, H x = none → H dx = none → dx ≠ x → spFormI CF (.ref x :: [.int t, .int p, .int r, .int b]) (upd (upd H dx (.own x)) x (.ins CF dx [])) (fun v H2 => v = .non ∧ Q (.ref x) H2) E0 := fun x dx nx nd ne =>
  ⟨x, dx, t, p, r, b, rfl, ne, .inl ⟨upd_same, rfl⟩, b0, hb, rfl, q _ _ (same_made nx nd) ⟨x, dx, rfl, slH_slt ne⟩⟩
theorem Arg4.same {H H' : Hp} {vs : List V} {n : Nm} (h : Arg4 CF H vs n) (s : Same H H') : Arg4 CF H' vs n := h.imp (fun ⟨v, e, h⟩ => ⟨v, e, h.same s⟩) id
theorem slH_same {H H1 : Hp} {x dx C C' : Addr} {vs : List (Option V)} (nx : H x = none) (nd : H dx = none) (s : Same (upd (upd H dx (.own x)) x (.ins C dx [])) H1) : Same H (slH H1 x C' dx vs) := fun b o e => by
  have h1 : b ≠ x := ne_of_none e nx
  have h2 : b ≠ dx := ne_of_none e nd
  rw [slH_ne h1 h2]
  exact s _ _ (by rw [upd_ne h1, upd_ne h2]; exact e)
theorem num_made {H : Hp} {Q : VK} {vs : List V} {n : Nm} (h : Arg4 CF H vs n) (q : ∀ v H', Same H H' → At4 CN H' v n → Q v H') :
    ∀ x dx, H x = none → H dx = none → dx ≠ x → spNumI CN CF (.ref x :: vs) (upd (upd H dx (.own x)) x (.ins CN dx [])) (fun v H2 => v = .non ∧ Q (.ref x) H2) E0 := fun x dx nx nd ne =>
  ⟨x, dx, vs, n, rfl, ne, ⟨upd_same, by rw [upd_ne ne, upd_same]⟩, h.same (same_new nx nd), fun H1 s => ⟨rfl, q _ _ (slH_same nx nd s) ⟨x, dx, rfl, slH_slt ne⟩⟩⟩
theorem At4.ty {H : Hp} {v : V} {n : Nm} {C : Addr} (h : At4 C H v n) (c : SCls K C) (i : SIsi K C) : TyY K H v (.ref C) := by
  obtain ⟨a, dx, rfl, h⟩ := h
  exact .slt h c i
theorem ty_int (H : Hp) (i : Int) : TyY K H (.int i) (.type "int") := .x (.base (.int i))
theorem kit_ii : PySem.W.kitOne K (.type "int") (.type "int") = some true := kit_ty (by decide +kernel)
theorem sc_form_in : FnScope ["top", "part", "root", "bottom"] ["top", "part", "root", "bottom"] (defScope (topS 21)) := ⟨rfl, rfl, rfl, by decide +kernel, rfl, by decide +kernel, by decide +kernel⟩
theorem ok_form_in (F : Fun K "form_in" "form_in" (topS 21) f fd) (fr : Free mg) (T : NTxt K mg CN CF) (G_is_whole : GD P w K mg base "is_whole" 2 (spIsWhole K)) (G_is_root : GD P w K mg base "is_root" 3 spIsRoot)
    (G_Form : GM P w K mg base "Form" CF 3 [] (spFormI CF)) : FnOk P w K mg base CX0 5 f fd ["top", "part", "root", "bottom"] (spFormIn CF) := by
  refine F.ok sc_form_in (fun vs H Q E ⟨_, e, _⟩ => by rcases e with ⟨_, e, _⟩ | ⟨_, _, _, _, e, _⟩ <;> (rw [e]; rfl)) (fun cdv A outer s H vs Q E hr h => ⟨_, (pss_cons (ps_if (pt_val (pe_callB call_isiU (by rfl) fr.b_isinstance (by decide +kernel) (pa_cons (pv 0) (pa_cons (pe_glob (v := .ref CF) rfl T.gF rfl) pa_nil)))) (pss_one (ps_ret (pv 0))) pss_nil)
  (pss_cons (ps_if (PW.pt (pw_or (pt_not (pt_val (pe_c1 G_is_whole (hr.mono (by decide)) (pa_cons (pv 0) pa_nil)))) (pw_or (pt_not (pt_val (pe_c1 G_is_whole (hr.mono (by decide)) (pa_cons (pv 1) pa_nil)))) (pw_or (pt_not (pt_val (pe_c1 G_is_whole (hr.mono (by decide)) (pa_cons (pv 3) pa_nil)))) (pw_or1 (pt_cmpR op_eq (pv 3) pe_int (nomark _))))))) (pss_one ps_never) pss_nil)
  (pss_cons (ps_if (PW.pt (pw_or (pt_not (pt_val (pe_c1 G_is_whole (hr.mono (by decide)) (pa_cons (pv 2) pa_nil)))) (pw_or (PW.pt (pw_and (pt_cmpR op_ne (pv 2) pe_int (nomark _)) (pw_and1 (pt_not (pt_val (pe_c1 G_is_root (hr.mono (by decide)) (pa_cons (pv 2) pa_nil))))))) (pw_or1 (PW.pt (pw_and (pt_cmpR op_eq (pv 2) pe_int (nomark _)) (pw_and1 (pt_cmpR op_ne (pv 1) pe_int (nomark _))))))))) (pss_one ps_never) pss_nil)
  (pss_one (ps_ret (pe_m1 G_Form (hr.mono (by decide)) (pa_cons (pv 0) (pa_cons (pv 1) (pa_cons (pv 2) (pa_cons (pv 3) pa_nil)))))))))), ?_⟩)
  obtain ⟨n, h, q⟩ := h
  rcases h with ⟨v, rfl, h⟩ | ⟨t, p, r, b, rfl, b0, hrt, hb, rfl⟩
  · exact ⟨v, rfl, v, .ref CF, _, _, true, rfl, .own CF, h.ty T.cF T.yF, T.iFF, true, rfl, v, rfl, q v H (Same.refl H) h⟩
  have ex : ∀ i : Int, (true = true → ∃ j, V.int i = V.int j) := fun i _ => ⟨i, rfl⟩
  refine ⟨_, rfl, _, .ref CF, _, _, false, rfl, .own CF, ty_int H t, T.iIF, false, rfl, _, rfl, _, _, true, rfl, ty_int H t, kit_ii, ex t, true, rfl, _, rfl, _, _, true, rfl, ty_int H p, kit_ii, ex p, true, rfl, _, rfl, _, _, true, rfl, ty_int H b, kit_ii, ex b, true, rfl,
    _, rfl, rfl, _, rfl, ite_dec (fun c => absurd (V.int.inj c) b0) fun _ => ?_⟩
  refine ⟨_, rfl, _, _, true, rfl, ty_int H r, kit_ii, ex r, true, rfl, _, rfl, rfl, _, rfl, ?_⟩
  have fin : ∀ H1, Same H H1 → ∀ x dx, H1 x = none → H1 dx = none → dx ≠ x → spFormI CF (.ref x :: [.int t, .int p, .int r, .int b]) (upd (upd H1 dx (.own x)) x (.ins CF dx [])) (fun v H2 => v = .non ∧ Q (.ref x) H2) E0 :=
    fun H1 s1 => form_made b0 hb fun v H' s ha => q v H' (s1.trans s) ha
  rcases hrt with ⟨rfl, rfl⟩ | hrt
  · exact ⟨_, rfl, rfl, _, rfl, _, rfl, rfl, _, rfl, _, rfl, _, rfl, _, rfl, _, rfl, fin H (Same.refl H)⟩
  · have r0 : r ≠ 0 := fun e => by rw [e] at hrt; revert hrt; decide
    refine ite_ndec (fun c => ?_) fun c => absurd (V.int.inj c) r0
    refine ⟨_, rfl, r, rfl, fun H1 s1 => ⟨isRootB r, rfl, ?_⟩⟩
    rw [hrt]
    exact ⟨_, rfl, rfl, _, rfl, ite_dec (fun c => absurd (V.int.inj c) r0) fun _ => ⟨_, rfl, _, rfl, _, rfl, _, rfl, fin H1 s1⟩⟩
theorem sc_Number___init__ : FnScope ["self", "top", "part", "root", "bottom", "form"] ["self", "top", "part", "root", "bottom"] (defScope (inClass (topS 22) 1)) := ⟨rfl, rfl, rfl, by decide +kernel, rfl, by decide +kernel, by decide +kernel⟩
theorem ok_num_init {dvs : List V} {kws : List (Str × V)} (F : FunD K "__init__" "Number.__init__" (defArgs (inClass (topS 22) 1)) (defBody (inClass (topS 22) 1)) (defScope (inClass (topS 22) 1)) dvs kws f fd) (T : NTxt K mg CN CF) (G_form_in : GD P w K mg base "form_in" 5 (spFormIn CF)) :
    FnOk P w K mg base CX0 6 f fd ["self", "top", "part", "root", "bottom"] (spNumI CN CF) := by
  refine F.ok sc_Number___init__ (fun vs H Q E ⟨_, _, rest, n, e, _, _, h, _⟩ => by rw [e]; rcases h with ⟨_, e, _⟩ | ⟨_, _, _, _, e, _⟩ <;> (rw [e]; rfl)) (fun cdv A outer s H vs Q E hr h => ⟨_, ((pss_cons (ps_set (i := 5) sc_Number___init__.nd rfl (by first | exact Or.inl rfl | exact Or.inr rfl) (pe_c1 G_form_in (hr.mono (by decide)) (pa_cons (pv 1) (pa_cons (pv 2) (pa_cons (pv 3) (pa_cons (pv 4) pa_nil))))))
  (pss_cons (ps_slC T.cN T.sN_top (pv 0) (pe_slC T.cF T.sF_top (pv 5)))
  (pss_cons (ps_slC T.cN T.sN_part (pv 0) (pe_slC T.cF T.sF_part (pv 5)))
  (pss_cons (ps_slC T.cN T.sN_root (pv 0) (pe_slC T.cF T.sF_root (pv 5)))
  (pss_one (ps_slC T.cN T.sN_bottom (pv 0) (pe_slC T.cF T.sF_bottom (pv 5)))))))) : PSs (cxOf CX0 P w K mg base ["self", "top", "part", "root", "bottom", "form"] _ _ f cdv A outer s H E).nox _ _).nox, ?_⟩)
  obtain ⟨a, dx, rest, n, rfl, ne, hs, ha, q⟩ := h
  have main : ∀ (σ : L2.St) v H1, Same H H1 → At4 CF H1 v n → σ[0]? = some (some (.ref a)) → σ[5]? = some (some v) →
      tSeq (sSlC CN 3 (tVar 0) (tSlC CF 3 (tVar 5))) (tSeq (sSlC CN 1 (tVar 0) (tSlC CF 1 (tVar 5))) (tSeq (sSlC CN 2 (tVar 0) (tSlC CF 2 (tVar 5))) (sSlC CN 0 (tVar 0) (tSlC CF 0 (tVar 5))))) { nx := fun _ H' => Q .non H', rt := Q } σ H1 := by
    intro σ v H1 s1 h e0 e5
    obtain ⟨b, dy, rfl, hb⟩ := h
    have ka := s1 _ _ hs.1
    have kd := s1 _ _ hs.2
    have hs1 : Slt H1 a CN dx [] := .inl ⟨ka, rfl⟩
    obtain ⟨b1, b2⟩ : H1 b = some (SlO b CF dy (sl4 n)) ∧ H1 dy = some (.xd []) := by
      rcases hb with ⟨_, h2⟩ | h
      · cases h2
      · exact h
    have n1 : b ≠ a := fun z => by rw [z, ka] at b1; unfold SlO at b1; cases b1
    have n2 : b ≠ dx := fun z => by rw [z, kd] at b1; unfold SlO at b1; cases b1
    have n3 : dy ≠ a := fun z => by rw [z, ka] at b2; cases b2
    have n4 : dy ≠ dx := fun z => by rw [z, kd] at b2; cases b2
    have kp : ∀ vs, Slt (slH H1 a CN dx vs) b CF dy (sl4 n) := fun vs => .inr ⟨by rw [slH_ne n1 n2]; exact b1, by rw [slH_ne n3 n4]; exact b2⟩
    have q := q H1 s1
    refine ⟨_, e5, b, dy, _, _, rfl, hb, rfl, _, e0, a, dx, _, rfl, hs1, _, e5, b, dy, _, _, rfl, kp _, rfl, _, e0, a, dx, _, rfl, slH_slt ne, ?_⟩
    rw [slH_twice ne]
    refine ⟨_, e5, b, dy, _, _, rfl, kp _, rfl, _, e0, a, dx, _, rfl, slH_slt ne, ?_⟩
    rw [slH_twice ne]
    refine ⟨_, e5, b, dy, _, _, rfl, kp _, rfl, _, e0, a, dx, _, rfl, slH_slt ne, ?_⟩
    rw [slH_twice ne]
    exact q
  have pre : ∀ v H1, Same H H1 → At4 CF H1 v n → _ := fun v H1 s1 h => main ((start ["self", "top", "part", "root", "bottom", "form"] (.ref a :: rest)).set 5 (some v)) v H1 s1 h
  rcases id ha with ⟨v, rfl, h⟩ | ⟨t, p, r, b, rfl, b0, hrt, hb, rfl⟩
  · exact ⟨_, rfl, _, rfl, _, rfl, _, rfl, n, ha, fun v H' s1 h1 => pre v H' s1 h1 rfl rfl⟩
  · exact ⟨_, rfl, _, rfl, _, rfl, _, rfl, _, ha, fun v H' s1 h1 => pre v H' s1 h1 rfl rfl⟩
end
end
/-! ### what is done with numbers -/
def NI (CN : Addr) (H : Hp) (y : V) (n : Nm) : Prop := At4 CN H y n ∨ ∃ i, y = .int i ∧ n = mkNm i 0 0 1
theorem mk_int_bd (i : Int) : mkNm i 0 0 1 = ⟨i, 0, 0, 1⟩ := by
  have e : share i 0 1 = 1 := by unfold share gcd3; rw [if_pos (by decide)]; simp
  unfold mkNm; rw [e]; simp
def spLike (CN : Addr) : Sp := fun vs H Q _ => ∃ x n, vs = [x] ∧ NI CN H x n ∧ Q (.bl true) H
def spNumOf (CN : Addr) : Sp := fun vs H Q _ => ∃ x n, vs = [x] ∧ NI CN H x n ∧ ∀ v H', Same H H' → At4 CN H' v n → Q v H'
def spCommon (CN : Addr) : Sp := fun vs H Q _ => ∃ x y a b, vs = [x, y] ∧ At4 CN H x a ∧ At4 CN H y b ∧ Cm a b ∧ Q (.int (cRoot a b)) H
/-- a number by a number or an integer -/
def spBin (CN : Addr) (g : Nm → Nm → Nm) (C : Nm → Nm → Prop) : Sp := fun vs H Q _ => ∃ x y a b, vs = [x, y] ∧ At4 CN H x a ∧ NI CN H y b ∧ Cm a b ∧ Gd 1000 a ∧ Gd 1000 b ∧ C a b ∧ ∀ v H', Same H H' → At4 CN H' v (g a b) → Q v H'
def spUn (CN : Addr) (g : Nm → Nm) : Sp := fun vs H Q _ => ∃ x a, vs = [x] ∧ At4 CN H x a ∧ Gd 1000 a ∧ ∀ v H', Same H H' → At4 CN H' v (g a) → Q v H'
def spInt (CN : Addr) (g : Nm → Int) : Sp := fun vs H Q _ => ∃ x a, vs = [x] ∧ At4 CN H x a ∧ Gd 1000 a ∧ Q (.int (g a)) H
def spInt0 (CN : Addr) (g : Nm → Int) : Sp := fun vs H Q _ => ∃ x a, vs = [x] ∧ At4 CN H x a ∧ Q (.int (g a)) H
def spEq (K : PySem.W.Frag) (CN : Addr) : Sp := fun vs H Q _ => ∃ x y a, vs = [x, y] ∧ At4 CN H x a ∧ ((∃ b, At4 CN H y b ∧ Q (.bl (decide (a = b))) H) ∨ ∃ t, TyY K H y t ∧ PySem.W.kitOne K t (.ref CN) = some false ∧ Q (.bl false) H)
section
variable {P : Program} {w : World} {K : PySem.W.Frag} {mg : Str → Option Value} {base : Heap} {f CN CF : Addr} {fd : FuncData}
theorem sc_is_like_number : FnScope ["value"] ["value"] (defScope (topS 23)) := ⟨rfl, rfl, rfl, by decide +kernel, rfl, by decide +kernel, by decide +kernel⟩
theorem ok_is_like (F : Fun K "is_like_number" "is_like_number" (topS 23) f fd) (fr : Free mg) (T : NTxt K mg CN CF) (G_is_whole : GD P w K mg base "is_whole" 2 (spIsWhole K)) : FnOk P w K mg base CX0 3 f fd ["value"] (spLike CN) := by
  refine F.ok sc_is_like_number (fun vs H Q E ⟨_, _, e, _⟩ => by rw [e]; rfl) (fun cdv A outer s H vs Q E hr h => ⟨_, (pss_one (ps_ret (pe_or (pe_callB call_isiU (by rfl) fr.b_isinstance (by decide +kernel) (pa_cons (pv 0) (pa_cons (pe_glob (v := .ref CN) rfl T.gN rfl) pa_nil))) (pe_one (pe_c1 G_is_whole (hr.mono (by decide)) (pa_cons (pv 0) pa_nil)))))), ?_⟩)
  obtain ⟨x, n, rfl, h | ⟨i, rfl, _⟩, q⟩ := h
  · exact ⟨_, rfl, _, .ref CN, _, _, true, rfl, .own CN, h.ty T.cN T.yN, T.iNN, true, rfl, q⟩
  · exact ⟨_, rfl, _, .ref CN, _, _, false, rfl, .own CN, ty_int H i, T.iIN, false, rfl, _, rfl, _, _, true, rfl, ty_int H i, kit_ii, fun _ => ⟨i, rfl⟩, q⟩
theorem sc_number_of : FnScope ["value"] ["value"] (defScope (topS 24)) := ⟨rfl, rfl, rfl, by decide +kernel, rfl, by decide +kernel, by decide +kernel⟩
theorem ok_number_of (F : Fun K "number_of" "number_of" (topS 24) f fd) (fr : Free mg) (T : NTxt K mg CN CF) (G_Form : GM P w K mg base "Form" CF 3 [] (spFormI CF)) (G_Number : GM P w K mg base "Number" CN 6 [.int 0, .int 0, .int 1] (spNumI CN CF)) : FnOk P w K mg base CX0 8 f fd ["value"] (spNumOf CN) := by
  refine F.ok sc_number_of (fun vs H Q E ⟨_, _, e, _⟩ => by rw [e]; rfl) (fun cdv A outer s H vs Q E hr h => ⟨_, (pss_one (ps_ret (pe_ifExp (pt_val (pe_callB call_isiU (by rfl) fr.b_isinstance (by decide +kernel) (pa_cons (pv 0) (pa_cons (pe_glob (v := .ref CN) rfl T.gN rfl) pa_nil)))) (pv 0) (pe_m1 G_Number (hr.mono (by decide)) (pa_cons (pe_m1 G_Form (hr.mono (by decide)) (pa_cons (pv 0) (pa_cons pe_int (pa_cons pe_int (pa_cons pe_int pa_nil))))) pa_nil))))), ?_⟩)
  obtain ⟨x, n, rfl, h | ⟨i, rfl, rfl⟩, q⟩ := h
  · exact ⟨_, rfl, _, .ref CN, _, _, true, rfl, .own CN, h.ty T.cN T.yN, T.iNN, true, rfl, _, rfl, q _ _ (Same.refl H) h⟩
  · exact ⟨_, rfl, _, .ref CN, _, _, false, rfl, .own CN, ty_int H i, T.iIN, false, rfl, _, rfl, form_made (by decide) (bd_sm (by decide) (by decide)) fun v H1 s1 hf => num_made (.inl ⟨v, rfl, hf⟩) fun u H2 s2 hn => q u H2 (s1.trans s2) hn⟩
theorem sc_required : FnScope ["value"] ["value"] (defScope (topS 25)) := ⟨rfl, rfl, rfl, by decide +kernel, rfl, by decide +kernel, by decide +kernel⟩
theorem ok_required (F : Fun K "required" "required" (topS 25) f fd) (G_is_like_number : GD P w K mg base "is_like_number" 3 (spLike CN)) (G_number_of : GD P w K mg base "number_of" 8 (spNumOf CN)) : FnOk P w K mg base CX0 9 f fd ["value"] (spNumOf CN) := by
  refine F.ok sc_required (fun vs H Q E ⟨_, _, e, _⟩ => by rw [e]; rfl) (fun cdv A outer s H vs Q E hr h => ⟨_, (pss_cons (ps_if (pt_not (pt_val (pe_c1 G_is_like_number (hr.mono (by decide)) (pa_cons (pv 0) pa_nil)))) (pss_one ps_never) pss_nil)
  (pss_one (ps_ret (pe_c1 G_number_of (hr.mono (by decide)) (pa_cons (pv 0) pa_nil))))), ?_⟩)
  obtain ⟨x, n, rfl, h, q⟩ := h
  exact ⟨_, rfl, _, n, rfl, h, true, rfl, _, rfl, _, n, rfl, h, q⟩
theorem sc_common_root : FnScope ["one", "other"] ["one", "other"] (defScope (topS 26)) := ⟨rfl, rfl, rfl, by decide +kernel, rfl, by decide +kernel, by decide +kernel⟩
theorem ok_common_root (F : Fun K "common_root" "common_root" (topS 26) f fd) (T : NTxt K mg CN CF) : FnOk P w K mg base CX0 2 f fd ["one", "other"] (spCommon CN) := by
  refine F.ok sc_common_root (fun vs H Q E ⟨_, _, _, _, e, _⟩ => by rw [e]; rfl) (fun cdv A outer s H vs Q E hr h => ⟨_, (pss_cons (ps_if (PW.pt (pw_and (pt_cmpR op_ne (pe_slC T.cN T.sN_root (pv 0)) pe_int (nomark _)) (pw_and (pt_cmpR op_ne (pe_slC T.cN T.sN_root (pv 1)) pe_int (nomark _)) (pw_and1 (pt_cmpR op_ne (pe_slC T.cN T.sN_root (pv 0)) (pe_slC T.cN T.sN_root (pv 1)) (nomark _)))))) (pss_one ps_never) pss_nil)
  (pss_one (ps_ret (pe_ifExp (pt_cmpR op_ne (pe_slC T.cN T.sN_root (pv 0)) pe_int (nomark _)) (pe_slC T.cN T.sN_root (pv 0)) (pe_slC T.cN T.sN_root (pv 1)))))), ?_⟩)
  obtain ⟨x, y, a, b, rfl, ⟨x, dx, rfl, hx⟩, ⟨y, dy, rfl, hy⟩, cm, q⟩ := h
  unfold cRoot at q
  have fin : (a.r = 0 ∨ b.r = 0 ∨ a.r = b.r) → tRet (tIf (tTest (tOp rNe (tSlC CN 2 (tVar 0)) (tC (.int 0)))) (tSlC CN 2 (tVar 0)) (tSlC CN 2 (tVar 1))) { nx := fun _ H' => Q .non H', rt := Q } (start ["one", "other"] [.ref x, .ref y]) H := fun _ => by
    refine ⟨_, rfl, x, dx, _, _, rfl, hx, rfl, rfl, _, rfl, ite_ndec (fun c => ?_) fun c => ?_⟩
    · rw [if_neg fun e => c (congrArg V.int e)] at q
      exact ⟨_, rfl, x, dx, _, _, rfl, hx, rfl, q⟩
    · rw [if_pos (V.int.inj c)] at q
      exact ⟨_, rfl, y, dy, _, _, rfl, hy, rfl, q⟩
  refine ⟨_, rfl, x, dx, _, _, rfl, hx, rfl, rfl, _, rfl, ite_ndec (fun c => ?_) fun c => fin cm⟩
  refine ⟨_, rfl, y, dy, _, _, rfl, hy, rfl, rfl, _, rfl, ite_ndec (fun c2 => ?_) fun c2 => fin cm⟩
  refine ⟨_, rfl, x, dx, _, _, rfl, hx, rfl, _, rfl, y, dy, _, _, rfl, hy, rfl, rfl, _, rfl, ?_⟩
  have e : a.r = b.r := by
    rcases cm with e | e | e
    · exact absurd (congrArg V.int e) c
    · exact absurd (congrArg V.int e) c2
    · exact e
  rw [e, decide_eq_true rfl]
  exact fin cm
theorem sc_Number___add__ : FnScope ["self", "other", "more", "root", "top", "part"] ["self", "other"] (defScope (inClass (topS 22) 13)) := ⟨rfl, rfl, rfl, by decide +kernel, rfl, by decide +kernel, by decide +kernel⟩
theorem ok_add (F : Fun K "__add__" "Number.__add__" (inClass (topS 22) 13) f fd) (fr : Free mg) (T : NTxt K mg CN CF) (G_is_like_number : GD P w K mg base "is_like_number" 3 (spLike CN)) (G_number_of : GD P w K mg base "number_of" 8 (spNumOf CN))
    (G_common_root : GD P w K mg base "common_root" 2 (spCommon CN)) (G_Form : GM P w K mg base "Form" CF 3 [] (spFormI CF)) (G_Number : GM P w K mg base "Number" CN 6 [.int 0, .int 0, .int 1] (spNumI CN CF)) :
    FnOk P w K mg base CX0 9 f fd ["self", "other"] (spBin CN addN fun _ _ => True) := by
  refine F.ok sc_Number___add__ (fun vs H Q E ⟨_, _, _, _, e, _⟩ => by rw [e]; rfl) (fun cdv A outer s H vs Q E hr h => ⟨_, (pss_cons (ps_if (pt_not (pt_val (pe_c1 G_is_like_number (hr.mono (by decide)) (pa_cons (pv 1) pa_nil)))) (pss_one ps_never) pss_nil)
  (pss_cons (ps_set (i := 2) sc_Number___add__.nd rfl (by first | exact Or.inl rfl | exact Or.inr rfl) (pe_c1 G_number_of (hr.mono (by decide)) (pa_cons (pv 1) pa_nil)))
  (pss_cons (ps_set (i := 3) sc_Number___add__.nd rfl (by first | exact Or.inl rfl | exact Or.inr rfl) (pe_c1 G_common_root (hr.mono (by decide)) (pa_cons (pv 0) (pa_cons (pv 2) pa_nil))))
  (pss_cons (ps_set (i := 4) sc_Number___add__.nd rfl (by first | exact Or.inl rfl | exact Or.inr rfl) (pe_op op_add (pe_op op_mulX (pe_slC T.cN T.sN_top (pv 0)) (pe_slC T.cN T.sN_bottom (pv 2))) (pe_op op_mulX (pe_slC T.cN T.sN_top (pv 2)) (pe_slC T.cN T.sN_bottom (pv 0)))))
  (pss_cons (ps_set (i := 5) sc_Number___add__.nd rfl (by first | exact Or.inl rfl | exact Or.inr rfl) (pe_op op_add (pe_op op_mulX (pe_slC T.cN T.sN_part (pv 0)) (pe_slC T.cN T.sN_bottom (pv 2))) (pe_op op_mulX (pe_slC T.cN T.sN_part (pv 2)) (pe_slC T.cN T.sN_bottom (pv 0)))))
  (pss_one (ps_ret (pe_m1 G_Number (hr.mono (by decide)) (pa_cons (pe_m1 G_Form (hr.mono (by decide)) (pa_cons (pv 4) (pa_cons (pv 5) (pa_cons (pv 3) (pa_cons (pe_op op_mulX (pe_slC T.cN T.sN_bottom (pv 0)) (pe_slC T.cN T.sN_bottom (pv 2))) pa_nil))))) pa_nil))))))))), ?_⟩)
  obtain ⟨x, y, a, b, rfl, ⟨a_self, d_self, rfl, h_self⟩, hy, cm, g_self, g_more, _, q⟩ := h
  refine ⟨_, rfl, y, b, rfl, hy, true, rfl, _, rfl, y, b, rfl, hy, fun v H1 s1 hv => ?_⟩
  have hx1 : At4 CN H1 (.ref a_self) a := At4.same ⟨a_self, d_self, rfl, h_self⟩ s1
  have cr := cRoot_bd g_self g_more
  obtain ⟨a_more, d_more, rfl, h_more⟩ := id hv
  refine ⟨_, rfl, _, rfl, .ref a_self, _, a, b, rfl, hx1, hv, cm, ?_⟩
  obtain ⟨_, d_self, e, h_self⟩ := hx1
  cases e
  have bb : a.b * b.b ≠ 0 := Int.mul_ne_zero g_self.b0 g_more.b0
  exact ⟨_, rfl, a_self, d_self, _, _, rfl, h_self, rfl, _, rfl, a_more, d_more, _, _, rfl, h_more, rfl, _, _, rfl, rfl, Bd.mulx g_self.t g_more.b (by decide), _, rfl, a_more, d_more, _, _, rfl, h_more, rfl, _, rfl, a_self, d_self, _, _, rfl, h_self, rfl, _, _, rfl, rfl, Bd.mulx g_more.t g_self.b (by decide), _, _, rfl, rfl, _, rfl, a_self, d_self, _, _, rfl, h_self, rfl, _, rfl, a_more, d_more, _, _, rfl, h_more, rfl, _, _, rfl, rfl, Bd.mulx g_self.p g_more.b (by decide), _, rfl, a_more, d_more, _, _, rfl, h_more, rfl, _, rfl, a_self, d_self, _, _, rfl, h_self, rfl, _, _, rfl, rfl, Bd.mulx g_more.p g_self.b (by decide), _, _, rfl, rfl, _, rfl, _, rfl, _, rfl, _, rfl, a_self, d_self, _, _, rfl, h_self, rfl, _, rfl, a_more, d_more, _, _, rfl, h_more, rfl, _, _, rfl, rfl, Bd.mulx g_self.b g_more.b (by decide),
    form_made bb (Bd.mono (Bd.mul g_self.b g_more.b) (by decide)) fun v H2 s2 hf => num_made (.inl ⟨v, rfl, hf⟩) fun u H3 s3 hn => q u H3 ((s1.trans s2).trans s3) hn⟩
theorem sc_Number___sub__ : FnScope ["self", "other", "less", "root", "top", "part"] ["self", "other"] (defScope (inClass (topS 22) 14)) := ⟨rfl, rfl, rfl, by decide +kernel, rfl, by decide +kernel, by decide +kernel⟩
theorem ok_sub (F : Fun K "__sub__" "Number.__sub__" (inClass (topS 22) 14) f fd) (fr : Free mg) (T : NTxt K mg CN CF) (G_is_like_number : GD P w K mg base "is_like_number" 3 (spLike CN)) (G_number_of : GD P w K mg base "number_of" 8 (spNumOf CN))
    (G_common_root : GD P w K mg base "common_root" 2 (spCommon CN)) (G_Form : GM P w K mg base "Form" CF 3 [] (spFormI CF)) (G_Number : GM P w K mg base "Number" CN 6 [.int 0, .int 0, .int 1] (spNumI CN CF)) :
    FnOk P w K mg base CX0 9 f fd ["self", "other"] (spBin CN subN fun _ _ => True) := by
  refine F.ok sc_Number___sub__ (fun vs H Q E ⟨_, _, _, _, e, _⟩ => by rw [e]; rfl) (fun cdv A outer s H vs Q E hr h => ⟨_, (pss_cons (ps_if (pt_not (pt_val (pe_c1 G_is_like_number (hr.mono (by decide)) (pa_cons (pv 1) pa_nil)))) (pss_one ps_never) pss_nil)
  (pss_cons (ps_set (i := 2) sc_Number___sub__.nd rfl (by first | exact Or.inl rfl | exact Or.inr rfl) (pe_c1 G_number_of (hr.mono (by decide)) (pa_cons (pv 1) pa_nil)))
  (pss_cons (ps_set (i := 3) sc_Number___sub__.nd rfl (by first | exact Or.inl rfl | exact Or.inr rfl) (pe_c1 G_common_root (hr.mono (by decide)) (pa_cons (pv 0) (pa_cons (pv 2) pa_nil))))
  (pss_cons (ps_set (i := 4) sc_Number___sub__.nd rfl (by first | exact Or.inl rfl | exact Or.inr rfl) (pe_op op_sub (pe_op op_mulX (pe_slC T.cN T.sN_top (pv 0)) (pe_slC T.cN T.sN_bottom (pv 2))) (pe_op op_mulX (pe_slC T.cN T.sN_top (pv 2)) (pe_slC T.cN T.sN_bottom (pv 0)))))
  (pss_cons (ps_set (i := 5) sc_Number___sub__.nd rfl (by first | exact Or.inl rfl | exact Or.inr rfl) (pe_op op_sub (pe_op op_mulX (pe_slC T.cN T.sN_part (pv 0)) (pe_slC T.cN T.sN_bottom (pv 2))) (pe_op op_mulX (pe_slC T.cN T.sN_part (pv 2)) (pe_slC T.cN T.sN_bottom (pv 0)))))
  (pss_one (ps_ret (pe_m1 G_Number (hr.mono (by decide)) (pa_cons (pe_m1 G_Form (hr.mono (by decide)) (pa_cons (pv 4) (pa_cons (pv 5) (pa_cons (pv 3) (pa_cons (pe_op op_mulX (pe_slC T.cN T.sN_bottom (pv 0)) (pe_slC T.cN T.sN_bottom (pv 2))) pa_nil))))) pa_nil))))))))), ?_⟩)
  obtain ⟨x, y, a, b, rfl, ⟨a_self, d_self, rfl, h_self⟩, hy, cm, g_self, g_less, _, q⟩ := h
  refine ⟨_, rfl, y, b, rfl, hy, true, rfl, _, rfl, y, b, rfl, hy, fun v H1 s1 hv => ?_⟩
  have hx1 : At4 CN H1 (.ref a_self) a := At4.same ⟨a_self, d_self, rfl, h_self⟩ s1
  have cr := cRoot_bd g_self g_less
  obtain ⟨a_less, d_less, rfl, h_less⟩ := id hv
  refine ⟨_, rfl, _, rfl, .ref a_self, _, a, b, rfl, hx1, hv, cm, ?_⟩
  obtain ⟨_, d_self, e, h_self⟩ := hx1
  cases e
  have bb : a.b * b.b ≠ 0 := Int.mul_ne_zero g_self.b0 g_less.b0
  exact ⟨_, rfl, a_self, d_self, _, _, rfl, h_self, rfl, _, rfl, a_less, d_less, _, _, rfl, h_less, rfl, _, _, rfl, rfl, Bd.mulx g_self.t g_less.b (by decide), _, rfl, a_less, d_less, _, _, rfl, h_less, rfl, _, rfl, a_self, d_self, _, _, rfl, h_self, rfl, _, _, rfl, rfl, Bd.mulx g_less.t g_self.b (by decide), _, _, rfl, rfl, _, rfl, a_self, d_self, _, _, rfl, h_self, rfl, _, rfl, a_less, d_less, _, _, rfl, h_less, rfl, _, _, rfl, rfl, Bd.mulx g_self.p g_less.b (by decide), _, rfl, a_less, d_less, _, _, rfl, h_less, rfl, _, rfl, a_self, d_self, _, _, rfl, h_self, rfl, _, _, rfl, rfl, Bd.mulx g_less.p g_self.b (by decide), _, _, rfl, rfl, _, rfl, _, rfl, _, rfl, _, rfl, a_self, d_self, _, _, rfl, h_self, rfl, _, rfl, a_less, d_less, _, _, rfl, h_less, rfl, _, _, rfl, rfl, Bd.mulx g_self.b g_less.b (by decide),
    form_made bb (Bd.mono (Bd.mul g_self.b g_less.b) (by decide)) fun v H2 s2 hf => num_made (.inl ⟨v, rfl, hf⟩) fun u H3 s3 hn => q u H3 ((s1.trans s2).trans s3) hn⟩
theorem sc_Number___mul__ : FnScope ["self", "other", "more", "root", "top", "part"] ["self", "other"] (defScope (inClass (topS 22) 15)) := ⟨rfl, rfl, rfl, by decide +kernel, rfl, by decide +kernel, by decide +kernel⟩
theorem ok_mul (F : Fun K "__mul__" "Number.__mul__" (inClass (topS 22) 15) f fd) (fr : Free mg) (T : NTxt K mg CN CF) (G_is_like_number : GD P w K mg base "is_like_number" 3 (spLike CN)) (G_number_of : GD P w K mg base "number_of" 8 (spNumOf CN))
    (G_common_root : GD P w K mg base "common_root" 2 (spCommon CN)) (G_Form : GM P w K mg base "Form" CF 3 [] (spFormI CF)) (G_Number : GM P w K mg base "Number" CN 6 [.int 0, .int 0, .int 1] (spNumI CN CF)) :
    FnOk P w K mg base CX0 9 f fd ["self", "other"] (spBin CN mulN fun _ _ => True) := by
  refine F.ok sc_Number___mul__ (fun vs H Q E ⟨_, _, _, _, e, _⟩ => by rw [e]; rfl) (fun cdv A outer s H vs Q E hr h => ⟨_, (pss_cons (ps_if (pt_not (pt_val (pe_c1 G_is_like_number (hr.mono (by decide)) (pa_cons (pv 1) pa_nil)))) (pss_one ps_never) pss_nil)
  (pss_cons (ps_set (i := 2) sc_Number___mul__.nd rfl (by first | exact Or.inl rfl | exact Or.inr rfl) (pe_c1 G_number_of (hr.mono (by decide)) (pa_cons (pv 1) pa_nil)))
  (pss_cons (ps_set (i := 3) sc_Number___mul__.nd rfl (by first | exact Or.inl rfl | exact Or.inr rfl) (pe_c1 G_common_root (hr.mono (by decide)) (pa_cons (pv 0) (pa_cons (pv 2) pa_nil))))
  (pss_cons (ps_set (i := 4) sc_Number___mul__.nd rfl (by first | exact Or.inl rfl | exact Or.inr rfl) (pe_op op_add (pe_op op_mulX (pe_slC T.cN T.sN_top (pv 0)) (pe_slC T.cN T.sN_top (pv 2))) (pe_op op_mulX (pe_op op_mulX (pe_slC T.cN T.sN_part (pv 0)) (pe_slC T.cN T.sN_part (pv 2))) (pv 3))))
  (pss_cons (ps_set (i := 5) sc_Number___mul__.nd rfl (by first | exact Or.inl rfl | exact Or.inr rfl) (pe_op op_add (pe_op op_mulX (pe_slC T.cN T.sN_top (pv 0)) (pe_slC T.cN T.sN_part (pv 2))) (pe_op op_mulX (pe_slC T.cN T.sN_part (pv 0)) (pe_slC T.cN T.sN_top (pv 2)))))
  (pss_one (ps_ret (pe_m1 G_Number (hr.mono (by decide)) (pa_cons (pe_m1 G_Form (hr.mono (by decide)) (pa_cons (pv 4) (pa_cons (pv 5) (pa_cons (pv 3) (pa_cons (pe_op op_mulX (pe_slC T.cN T.sN_bottom (pv 0)) (pe_slC T.cN T.sN_bottom (pv 2))) pa_nil))))) pa_nil))))))))), ?_⟩)
  obtain ⟨x, y, a, b, rfl, ⟨a_self, d_self, rfl, h_self⟩, hy, cm, g_self, g_more, _, q⟩ := h
  refine ⟨_, rfl, y, b, rfl, hy, true, rfl, _, rfl, y, b, rfl, hy, fun v H1 s1 hv => ?_⟩
  have hx1 : At4 CN H1 (.ref a_self) a := At4.same ⟨a_self, d_self, rfl, h_self⟩ s1
  have cr := cRoot_bd g_self g_more
  obtain ⟨a_more, d_more, rfl, h_more⟩ := id hv
  refine ⟨_, rfl, _, rfl, .ref a_self, _, a, b, rfl, hx1, hv, cm, ?_⟩
  obtain ⟨_, d_self, e, h_self⟩ := hx1
  cases e
  have bb : a.b * b.b ≠ 0 := Int.mul_ne_zero g_self.b0 g_more.b0
  exact ⟨_, rfl, a_self, d_self, _, _, rfl, h_self, rfl, _, rfl, a_more, d_more, _, _, rfl, h_more, rfl, _, _, rfl, rfl, Bd.mulx g_self.t g_more.t (by decide), _, rfl, a_self, d_self, _, _, rfl, h_self, rfl, _, rfl, a_more, d_more, _, _, rfl, h_more, rfl, _, _, rfl, rfl, Bd.mulx g_self.p g_more.p (by decide), _, rfl, _, _, rfl, rfl, Bd.mulx (Bd.mul g_self.p g_more.p) cr (by decide), _, _, rfl, rfl, _, rfl, a_self, d_self, _, _, rfl, h_self, rfl, _, rfl, a_more, d_more, _, _, rfl, h_more, rfl, _, _, rfl, rfl, Bd.mulx g_self.t g_more.p (by decide), _, rfl, a_self, d_self, _, _, rfl, h_self, rfl, _, rfl, a_more, d_more, _, _, rfl, h_more, rfl, _, _, rfl, rfl, Bd.mulx g_self.p g_more.t (by decide), _, _, rfl, rfl, _, rfl, _, rfl, _, rfl, _, rfl, a_self, d_self, _, _, rfl, h_self, rfl, _, rfl, a_more, d_more, _, _, rfl, h_more, rfl, _, _, rfl, rfl, Bd.mulx g_self.b g_more.b (by decide),
    form_made bb (Bd.mono (Bd.mul g_self.b g_more.b) (by decide)) fun v H2 s2 hf => num_made (.inl ⟨v, rfl, hf⟩) fun u H3 s3 hn => q u H3 ((s1.trans s2).trans s3) hn⟩
theorem sc_Number_over : FnScope ["self", "other", "less", "root", "size", "top", "part"] ["self", "other"] (defScope (inClass (topS 22) 12)) := ⟨rfl, rfl, rfl, by decide +kernel, rfl, by decide +kernel, by decide +kernel⟩
theorem ok_over (F : Fun K "over" "Number.over" (inClass (topS 22) 12) f fd) (fr : Free mg) (T : NTxt K mg CN CF) (G_required : GD P w K mg base "required" 9 (spNumOf CN))
    (G_common_root : GD P w K mg base "common_root" 2 (spCommon CN)) (G_Form : GM P w K mg base "Form" CF 3 [] (spFormI CF)) (G_Number : GM P w K mg base "Number" CN 6 [.int 0, .int 0, .int 1] (spNumI CN CF)) :
    FnOk P w K mg base CX0 10 f fd ["self", "other"] (spBin CN overN fun a b => sizeN a b ≠ 0) := by
  refine F.ok sc_Number_over (fun vs H Q E ⟨_, _, _, _, e, _⟩ => by rw [e]; rfl) (fun cdv A outer s H vs Q E hr h => ⟨_, (pss_cons (ps_set (i := 2) sc_Number_over.nd rfl (by first | exact Or.inl rfl | exact Or.inr rfl) (pe_c1 G_required (hr.mono (by decide)) (pa_cons (pv 1) pa_nil)))
  (pss_cons (ps_set (i := 3) sc_Number_over.nd rfl (by first | exact Or.inl rfl | exact Or.inr rfl) (pe_c1 G_common_root (hr.mono (by decide)) (pa_cons (pv 0) (pa_cons (pv 2) pa_nil))))
  (pss_cons (ps_set (i := 4) sc_Number_over.nd rfl (by first | exact Or.inl rfl | exact Or.inr rfl) (pe_op op_sub (pe_op op_mulX (pe_slC T.cN T.sN_top (pv 2)) (pe_slC T.cN T.sN_top (pv 2))) (pe_op op_mulX (pe_op op_mulX (pe_slC T.cN T.sN_part (pv 2)) (pe_slC T.cN T.sN_part (pv 2))) (pv 3))))
  (pss_cons (ps_if (pt_cmpR op_eq (pv 4) pe_int (nomark _)) (pss_one ps_never) pss_nil)
  (pss_cons (ps_set (i := 5) sc_Number_over.nd rfl (by first | exact Or.inl rfl | exact Or.inr rfl) (pe_op op_sub (pe_op op_mulX (pe_slC T.cN T.sN_top (pv 0)) (pe_slC T.cN T.sN_top (pv 2))) (pe_op op_mulX (pe_op op_mulX (pe_slC T.cN T.sN_part (pv 0)) (pe_slC T.cN T.sN_part (pv 2))) (pv 3))))
  (pss_cons (ps_set (i := 6) sc_Number_over.nd rfl (by first | exact Or.inl rfl | exact Or.inr rfl) (pe_op op_sub (pe_op op_mulX (pe_slC T.cN T.sN_part (pv 0)) (pe_slC T.cN T.sN_top (pv 2))) (pe_op op_mulX (pe_slC T.cN T.sN_top (pv 0)) (pe_slC T.cN T.sN_part (pv 2)))))
  (pss_one (ps_ret (pe_m1 G_Number (hr.mono (by decide)) (pa_cons (pe_m1 G_Form (hr.mono (by decide)) (pa_cons (pe_op op_mulX (pv 5) (pe_slC T.cN T.sN_bottom (pv 2))) (pa_cons (pe_op op_mulX (pv 6) (pe_slC T.cN T.sN_bottom (pv 2))) (pa_cons (pv 3) (pa_cons (pe_op op_mulX (pv 4) (pe_slC T.cN T.sN_bottom (pv 0))) pa_nil))))) pa_nil)))))))))), ?_⟩)
  obtain ⟨x, y, a, b, rfl, ⟨a_self, d_self, rfl, h_self⟩, hy, cm, g_self, g_less, sz, q⟩ := h
  refine ⟨_, rfl, y, b, rfl, hy, fun v H1 s1 hv => ?_⟩
  have hx1 : At4 CN H1 (.ref a_self) a := At4.same ⟨a_self, d_self, rfl, h_self⟩ s1
  have cr := cRoot_bd g_self g_less
  obtain ⟨a_less, d_less, rfl, h_less⟩ := id hv
  refine ⟨_, rfl, _, rfl, .ref a_self, _, a, b, rfl, hx1, hv, cm, ?_⟩
  obtain ⟨_, d_self, e, h_self⟩ := hx1
  cases e
  refine ⟨_, rfl, a_less, d_less, _, _, rfl, h_less, rfl, _, rfl, a_less, d_less, _, _, rfl, h_less, rfl, _, _, rfl, rfl, Bd.mulx g_less.t g_less.t (by decide), _, rfl, a_less, d_less, _, _, rfl, h_less, rfl, _, rfl, a_less, d_less, _, _, rfl, h_less, rfl, _, _, rfl, rfl, Bd.mulx g_less.p g_less.p (by decide), _, rfl, _, _, rfl, rfl, Bd.mulx (Bd.mul g_less.p g_less.p) cr (by decide), _, _, rfl, rfl, _, rfl, rfl, _, rfl, ite_dec (fun c => absurd (V.int.inj c) sz) fun _ => ?_⟩
  have bs := (Bd.sub (n := 2010) (m := 2011) (Bd.mono (Bd.mul g_less.t g_less.t) (by decide)) (Bd.mono (Bd.mul (Bd.mul g_less.p g_less.p) cr) (by decide)) rfl)
  have bt := (Bd.sub (n := 2010) (m := 2011) (Bd.mono (Bd.mul g_self.t g_less.t) (by decide)) (Bd.mono (Bd.mul (Bd.mul g_self.p g_less.p) cr) (by decide)) rfl)
  have bp := (Bd.sub (n := 2000) (m := 2001) (Bd.mono (Bd.mul g_self.p g_less.t) (by decide)) (Bd.mono (Bd.mul g_self.t g_less.p) (by decide)) rfl)
  exact ⟨_, rfl, a_self, d_self, _, _, rfl, h_self, rfl, _, rfl, a_less, d_less, _, _, rfl, h_less, rfl, _, _, rfl, rfl, Bd.mulx g_self.t g_less.t (by decide), _, rfl, a_self, d_self, _, _, rfl, h_self, rfl, _, rfl, a_less, d_less, _, _, rfl, h_less, rfl, _, _, rfl, rfl, Bd.mulx g_self.p g_less.p (by decide), _, rfl, _, _, rfl, rfl, Bd.mulx (Bd.mul g_self.p g_less.p) cr (by decide), _, _, rfl, rfl, _, rfl, a_self, d_self, _, _, rfl, h_self, rfl, _, rfl, a_less, d_less, _, _, rfl, h_less, rfl, _, _, rfl, rfl, Bd.mulx g_self.p g_less.t (by decide), _, rfl, a_self, d_self, _, _, rfl, h_self, rfl, _, rfl, a_less, d_less, _, _, rfl, h_less, rfl, _, _, rfl, rfl, Bd.mulx g_self.t g_less.p (by decide), _, _, rfl, rfl,
    _, rfl, _, rfl, a_less, d_less, _, _, rfl, h_less, rfl, _, _, rfl, rfl, Bd.mulx bt g_less.b (by decide), _, rfl, _, rfl, a_less, d_less, _, _, rfl, h_less, rfl, _, _, rfl, rfl, Bd.mulx bp g_less.b (by decide), _, rfl, _, rfl, _, rfl, a_self, d_self, _, _, rfl, h_self, rfl, _, _, rfl, rfl, Bd.mulx bs g_self.b (by decide),
    form_made (Int.mul_ne_zero sz g_self.b0) (Bd.mono (Bd.mul bs g_self.b) (by decide)) fun v H2 s2 hf => num_made (.inl ⟨v, rfl, hf⟩) fun u H3 s3 hn => q u H3 ((s1.trans s2).trans s3) hn⟩
theorem sc_Number___neg__ : FnScope ["self"] ["self"] (defScope (inClass (topS 22) 16)) := ⟨rfl, rfl, rfl, by decide +kernel, rfl, by decide +kernel, by decide +kernel⟩
theorem ok_neg (F : Fun K "__neg__" "Number.__neg__" (inClass (topS 22) 16) f fd) (T : NTxt K mg CN CF) (G_Form : GM P w K mg base "Form" CF 3 [] (spFormI CF)) (G_Number : GM P w K mg base "Number" CN 6 [.int 0, .int 0, .int 1] (spNumI CN CF)) :
    FnOk P w K mg base CX0 8 f fd ["self"] (spUn CN negN) := by
  refine F.ok sc_Number___neg__ (fun vs H Q E ⟨_, _, e, _⟩ => by rw [e]; rfl) (fun cdv A outer s H vs Q E hr h => ⟨_, (pss_one (ps_ret (pe_m1 G_Number (hr.mono (by decide)) (pa_cons (pe_m1 G_Form (hr.mono (by decide)) (pa_cons (pe_un un_neg (pe_slC T.cN T.sN_top (pv 0))) (pa_cons (pe_un un_neg (pe_slC T.cN T.sN_part (pv 0))) (pa_cons (pe_slC T.cN T.sN_root (pv 0)) (pa_cons (pe_slC T.cN T.sN_bottom (pv 0)) pa_nil))))) pa_nil)))), ?_⟩)
  obtain ⟨x, a, rfl, ⟨a_self, d_self, rfl, h_self⟩, g_self, q⟩ := h
  exact ⟨_, rfl, a_self, d_self, _, _, rfl, h_self, rfl, _, rfl, _, rfl, a_self, d_self, _, _, rfl, h_self, rfl, _, rfl, _, rfl, a_self, d_self, _, _, rfl, h_self, rfl, _, rfl, a_self, d_self, _, _, rfl, h_self, rfl, form_made g_self.b0 (Bd.mono g_self.b (by decide)) fun v H2 s2 hf => num_made (.inl ⟨v, rfl, hf⟩) fun u H3 s3 hn => q u H3 (s2.trans s3) hn⟩
theorem sc_Number_mirror : FnScope ["self"] ["self"] (defScope (inClass (topS 22) 9)) := ⟨rfl, rfl, rfl, by decide +kernel, rfl, by decide +kernel, by decide +kernel⟩
theorem ok_mirror (F : Fun K "mirror" "Number.mirror" (inClass (topS 22) 9) f fd) (T : NTxt K mg CN CF) (G_Form : GM P w K mg base "Form" CF 3 [] (spFormI CF)) (G_Number : GM P w K mg base "Number" CN 6 [.int 0, .int 0, .int 1] (spNumI CN CF)) :
    FnOk P w K mg base CX0 8 f fd ["self"] (spUn CN mirN) := by
  refine F.ok sc_Number_mirror (fun vs H Q E ⟨_, _, e, _⟩ => by rw [e]; rfl) (fun cdv A outer s H vs Q E hr h => ⟨_, (pss_one (ps_ret (pe_m1 G_Number (hr.mono (by decide)) (pa_cons (pe_m1 G_Form (hr.mono (by decide)) (pa_cons (pe_slC T.cN T.sN_top (pv 0)) (pa_cons (pe_un un_neg (pe_slC T.cN T.sN_part (pv 0))) (pa_cons (pe_slC T.cN T.sN_root (pv 0)) (pa_cons (pe_slC T.cN T.sN_bottom (pv 0)) pa_nil))))) pa_nil)))), ?_⟩)
  obtain ⟨x, a, rfl, ⟨a_self, d_self, rfl, h_self⟩, g_self, q⟩ := h
  exact ⟨_, rfl, a_self, d_self, _, _, rfl, h_self, rfl, _, rfl, a_self, d_self, _, _, rfl, h_self, rfl, _, rfl, _, rfl, a_self, d_self, _, _, rfl, h_self, rfl, _, rfl, a_self, d_self, _, _, rfl, h_self, rfl, form_made g_self.b0 (Bd.mono g_self.b (by decide)) fun v H2 s2 hf => num_made (.inl ⟨v, rfl, hf⟩) fun u H3 s3 hn => q u H3 (s2.trans s3) hn⟩
theorem sc_Number_norm : FnScope ["self", "size"] ["self"] (defScope (inClass (topS 22) 10)) := ⟨rfl, rfl, rfl, by decide +kernel, rfl, by decide +kernel, by decide +kernel⟩
theorem ok_norm (F : Fun K "norm" "Number.norm" (inClass (topS 22) 10) f fd) (T : NTxt K mg CN CF) (G_Form : GM P w K mg base "Form" CF 3 [] (spFormI CF)) (G_Number : GM P w K mg base "Number" CN 6 [.int 0, .int 0, .int 1] (spNumI CN CF)) :
    FnOk P w K mg base CX0 8 f fd ["self"] (spUn CN normN) := by
  refine F.ok sc_Number_norm (fun vs H Q E ⟨_, _, e, _⟩ => by rw [e]; rfl) (fun cdv A outer s H vs Q E hr h => ⟨_, (pss_cons (ps_set (i := 1) sc_Number_norm.nd rfl (by first | exact Or.inl rfl | exact Or.inr rfl) (pe_op op_sub (pe_op op_mulX (pe_slC T.cN T.sN_top (pv 0)) (pe_slC T.cN T.sN_top (pv 0))) (pe_op op_mulX (pe_op op_mulX (pe_slC T.cN T.sN_part (pv 0)) (pe_slC T.cN T.sN_part (pv 0))) (pe_slC T.cN T.sN_root (pv 0)))))
  (pss_one (ps_ret (pe_m1 G_Number (hr.mono (by decide)) (pa_cons (pe_m1 G_Form (hr.mono (by decide)) (pa_cons (pv 1) (pa_cons pe_int (pa_cons pe_int (pa_cons (pe_op op_mulX (pe_slC T.cN T.sN_bottom (pv 0)) (pe_slC T.cN T.sN_bottom (pv 0))) pa_nil))))) pa_nil))))), ?_⟩)
  obtain ⟨x, a, rfl, ⟨a_self, d_self, rfl, h_self⟩, g_self, q⟩ := h
  exact ⟨_, rfl, a_self, d_self, _, _, rfl, h_self, rfl, _, rfl, a_self, d_self, _, _, rfl, h_self, rfl, _, _, rfl, rfl, Bd.mulx g_self.t g_self.t (by decide), _, rfl, a_self, d_self, _, _, rfl, h_self, rfl, _, rfl, a_self, d_self, _, _, rfl, h_self, rfl, _, _, rfl, rfl, Bd.mulx g_self.p g_self.p (by decide), _, rfl, a_self, d_self, _, _, rfl, h_self, rfl, _, _, rfl, rfl, Bd.mulx (Bd.mul g_self.p g_self.p) g_self.r (by decide), _, _, rfl, rfl, _, rfl, _, rfl, a_self, d_self, _, _, rfl, h_self, rfl, _, rfl, a_self, d_self, _, _, rfl, h_self, rfl, _, _, rfl, rfl, Bd.mulx g_self.b g_self.b (by decide), form_made (Int.mul_ne_zero g_self.b0 g_self.b0) (Bd.mono (Bd.mul g_self.b g_self.b) (by decide)) fun v H2 s2 hf => num_made (.inl ⟨v, rfl, hf⟩) fun u H3 s3 hn => q u H3 (s2.trans s3) hn⟩
theorem sc_Number_sign : FnScope ["self"] ["self"] (defScope (inClass (topS 22) 7)) := ⟨rfl, rfl, rfl, by decide +kernel, rfl, by decide +kernel, by decide +kernel⟩
theorem ok_sign (F : Fun K "sign" "Number.sign" (inClass (topS 22) 7) f fd) (T : NTxt K mg CN CF) (G_sign_of_sum : GD P w K mg base "sign_of_sum" 3 spSignSum) : FnOk P w K mg base CX0 4 f fd ["self"] (spInt CN fun n => sgnSum n.t n.p n.r) := by
  refine F.ok sc_Number_sign (fun vs H Q E ⟨_, _, e, _⟩ => by rw [e]; rfl) (fun cdv A outer s H vs Q E hr h => ⟨_, (pss_one (ps_ret (pe_c1 G_sign_of_sum (hr.mono (by decide)) (pa_cons (pe_slC T.cN T.sN_top (pv 0)) (pa_cons (pe_slC T.cN T.sN_part (pv 0)) (pa_cons (pe_slC T.cN T.sN_root (pv 0)) pa_nil)))))), ?_⟩)
  obtain ⟨x, a, rfl, ⟨a_self, d_self, rfl, h_self⟩, g_self, q⟩ := h
  exact ⟨_, rfl, a_self, d_self, _, _, rfl, h_self, rfl, _, rfl, a_self, d_self, _, _, rfl, h_self, rfl, _, rfl, a_self, d_self, _, _, rfl, h_self, rfl, _, _, _, rfl, g_self.t.mono (by decide), g_self.p.mono (by decide), g_self.r, q⟩
theorem sc_Number_floor : FnScope ["self"] ["self"] (defScope (inClass (topS 22) 8)) := ⟨rfl, rfl, rfl, by decide +kernel, rfl, by decide +kernel, by decide +kernel⟩
theorem ok_floor (F : Fun K "floor" "Number.floor" (inClass (topS 22) 8) f fd) (T : NTxt K mg CN CF) (G_floor_of : GD P w K mg base "floor_of" 3 spFloor) : FnOk P w K mg base CX0 4 f fd ["self"] (spInt CN fun n => floorN n.t n.p n.r n.b) := by
  refine F.ok sc_Number_floor (fun vs H Q E ⟨_, _, e, _⟩ => by rw [e]; rfl) (fun cdv A outer s H vs Q E hr h => ⟨_, (pss_one (ps_ret (pe_c1 G_floor_of (hr.mono (by decide)) (pa_cons (pe_slC T.cN T.sN_top (pv 0)) (pa_cons (pe_slC T.cN T.sN_part (pv 0)) (pa_cons (pe_slC T.cN T.sN_root (pv 0)) (pa_cons (pe_slC T.cN T.sN_bottom (pv 0)) pa_nil))))))), ?_⟩)
  obtain ⟨x, a, rfl, ⟨a_self, d_self, rfl, h_self⟩, g_self, q⟩ := h
  exact ⟨_, rfl, a_self, d_self, _, _, rfl, h_self, rfl, _, rfl, a_self, d_self, _, _, rfl, h_self, rfl, _, rfl, a_self, d_self, _, _, rfl, h_self, rfl, _, rfl, a_self, d_self, _, _, rfl, h_self, rfl, _, _, _, _, rfl, g_self.p.mono (by decide), g_self.r0, g_self.r, g_self.b.mono (by decide), g_self.b0, q⟩
theorem sc_Number_top : FnScope ["self"] ["self"] (defScope (inClass (topS 22) 3)) := ⟨rfl, rfl, rfl, by decide +kernel, rfl, by decide +kernel, by decide +kernel⟩
theorem ok_p_top (F : Fun K "top" "Number.top" (inClass (topS 22) 3) f fd) (T : NTxt K mg CN CF) : FnOk P w K mg base CX0 2 f fd ["self"] (spInt0 CN fun n => n.t) := by
  refine F.ok sc_Number_top (fun vs H Q E ⟨_, _, e, _⟩ => by rw [e]; rfl) (fun cdv A outer s H vs Q E hr h => ⟨_, (pss_one (ps_ret (pe_slC T.cN T.sN_top (pv 0)))), ?_⟩)
  obtain ⟨x, a, rfl, ⟨a_self, d_self, rfl, h_self⟩, q⟩ := h
  exact ⟨_, rfl, a_self, d_self, _, _, rfl, h_self, rfl, q⟩
theorem sc_Number_part : FnScope ["self"] ["self"] (defScope (inClass (topS 22) 4)) := ⟨rfl, rfl, rfl, by decide +kernel, rfl, by decide +kernel, by decide +kernel⟩
theorem ok_p_part (F : Fun K "part" "Number.part" (inClass (topS 22) 4) f fd) (T : NTxt K mg CN CF) : FnOk P w K mg base CX0 2 f fd ["self"] (spInt0 CN fun n => n.p) := by
  refine F.ok sc_Number_part (fun vs H Q E ⟨_, _, e, _⟩ => by rw [e]; rfl) (fun cdv A outer s H vs Q E hr h => ⟨_, (pss_one (ps_ret (pe_slC T.cN T.sN_part (pv 0)))), ?_⟩)
  obtain ⟨x, a, rfl, ⟨a_self, d_self, rfl, h_self⟩, q⟩ := h
  exact ⟨_, rfl, a_self, d_self, _, _, rfl, h_self, rfl, q⟩
theorem sc_Number_root : FnScope ["self"] ["self"] (defScope (inClass (topS 22) 5)) := ⟨rfl, rfl, rfl, by decide +kernel, rfl, by decide +kernel, by decide +kernel⟩
theorem ok_p_root (F : Fun K "root" "Number.root" (inClass (topS 22) 5) f fd) (T : NTxt K mg CN CF) : FnOk P w K mg base CX0 2 f fd ["self"] (spInt0 CN fun n => n.r) := by
  refine F.ok sc_Number_root (fun vs H Q E ⟨_, _, e, _⟩ => by rw [e]; rfl) (fun cdv A outer s H vs Q E hr h => ⟨_, (pss_one (ps_ret (pe_slC T.cN T.sN_root (pv 0)))), ?_⟩)
  obtain ⟨x, a, rfl, ⟨a_self, d_self, rfl, h_self⟩, q⟩ := h
  exact ⟨_, rfl, a_self, d_self, _, _, rfl, h_self, rfl, q⟩
theorem sc_Number_bottom : FnScope ["self"] ["self"] (defScope (inClass (topS 22) 6)) := ⟨rfl, rfl, rfl, by decide +kernel, rfl, by decide +kernel, by decide +kernel⟩
theorem ok_p_bottom (F : Fun K "bottom" "Number.bottom" (inClass (topS 22) 6) f fd) (T : NTxt K mg CN CF) : FnOk P w K mg base CX0 2 f fd ["self"] (spInt0 CN fun n => n.b) := by
  refine F.ok sc_Number_bottom (fun vs H Q E ⟨_, _, e, _⟩ => by rw [e]; rfl) (fun cdv A outer s H vs Q E hr h => ⟨_, (pss_one (ps_ret (pe_slC T.cN T.sN_bottom (pv 0)))), ?_⟩)
  obtain ⟨x, a, rfl, ⟨a_self, d_self, rfl, h_self⟩, q⟩ := h
  exact ⟨_, rfl, a_self, d_self, _, _, rfl, h_self, rfl, q⟩
theorem sc_Number___eq__ : FnScope ["self", "other"] ["self", "other"] (defScope (inClass (topS 22) 17)) := ⟨rfl, rfl, rfl, by decide +kernel, rfl, by decide +kernel, by decide +kernel⟩
theorem ok_eq (F : Fun K "__eq__" "Number.__eq__" (inClass (topS 22) 17) f fd) (fr : Free mg) (T : NTxt K mg CN CF) : FnOk P w K mg base CX0 2 f fd ["self", "other"] (spEq K CN) := by
  refine F.ok sc_Number___eq__ (fun vs H Q E ⟨_, _, _, e, _⟩ => by rw [e]; rfl) (fun cdv A outer s H vs Q E hr h => ⟨_, (pss_cons (ps_if (PW.pt (pw_or (pt_not (pt_val (pe_callB call_isiU (by rfl) fr.b_isinstance (by decide +kernel) (pa_cons (pv 1) (pa_cons (pe_glob (v := .ref CN) rfl T.gN rfl) pa_nil))))) (pw_or (pt_cmpR op_ne (pe_slC T.cN T.sN_top (pv 0)) (pe_slC T.cN T.sN_top (pv 1)) (nomark _)) (pw_or1 (pt_cmpR op_ne (pe_slC T.cN T.sN_part (pv 0)) (pe_slC T.cN T.sN_part (pv 1)) (nomark _)))))) (pss_one (ps_ret pe_bl)) pss_nil)
  (pss_one (ps_ret (pe_and (pe_cmpR op_eq (pe_slC T.cN T.sN_root (pv 0)) (pe_slC T.cN T.sN_root (pv 1)) (nomark _)) (pe_one (pe_cmpR op_eq (pe_slC T.cN T.sN_bottom (pv 0)) (pe_slC T.cN T.sN_bottom (pv 1)) (nomark _))))))), ?_⟩)
  obtain ⟨x, y, a, rfl, ⟨ax, dx, rfl, hx⟩, ⟨b, hy, q⟩ | ⟨t, ty, hk, q⟩⟩ := h
  rotate_left
  · exact ⟨_, rfl, _, .ref CN, t, _, false, rfl, .own CN, ty, hk, false, rfl, q⟩
  refine ⟨_, rfl, _, .ref CN, _, _, true, rfl, .own CN, hy.ty T.cN T.yN, T.iNN, true, rfl, ?_⟩
  obtain ⟨ay, dy, rfl, hy⟩ := hy
  obtain ⟨at_, ap, ar, ab⟩ := a
  obtain ⟨bt, bp, br, bb⟩ := b
  have no : (at_ ≠ bt ∨ ap ≠ bp) → Q (.bl false) H := fun c => by
    rw [decide_eq_false (show ¬ (Nm.mk at_ ap ar ab = Nm.mk bt bp br bb) from fun e => by cases e; rcases c with c | c <;> exact c rfl)] at q
    exact q
  refine ⟨_, rfl, ax, dx, _, _, rfl, hx, rfl, _, rfl, ay, dy, _, _, rfl, hy, rfl, rfl, _, rfl, ite_ndec (fun c => ?_) fun c => ?_⟩
  · exact no (.inl fun e => c (congrArg V.int e))
  refine ⟨_, rfl, ax, dx, _, _, rfl, hx, rfl, _, rfl, ay, dy, _, _, rfl, hy, rfl, rfl, _, rfl, ite_ndec (fun c => ?_) fun c2 => ?_⟩
  · exact no (.inr fun e => c (congrArg V.int e))
  cases c
  cases c2
  refine ⟨_, rfl, ax, dx, _, _, rfl, hx, rfl, _, rfl, ay, dy, _, _, rfl, hy, rfl, rfl, _, rfl, ite_dec (fun c => ?_) fun c => ?_⟩
  · refine ⟨_, rfl, ax, dx, _, _, rfl, hx, rfl, _, rfl, ay, dy, _, _, rfl, hy, rfl, rfl, ?_⟩
    cases c
    rw [show decide (V.int ab = V.int bb) = decide (Nm.mk at_ ap ar ab = Nm.mk at_ ap ar bb) by
      by_cases e : ab = bb
      · subst e; simp
      · rw [decide_eq_false (fun z => e (V.int.inj z)), decide_eq_false (fun z => e (Nm.mk.inj z).2.2.2)]]
    exact q
  · rw [decide_eq_false (show ¬ (Nm.mk at_ ap ar ab = Nm.mk at_ ap br bb) from fun e => c (congrArg V.int (Nm.mk.inj e).2.2.1))] at q
    exact q
end
end PF

set_option Elab.async false
set_option linter.all false
set_option maxRecDepth 100000
set_option maxHeartbeats 4000000
set_option exponentiation.threshold 20000
namespace PF
open PySem PySem.Spec PyProof.Rows L2 SlX
/-! ### the dice -/
/-- all that was tracked stays, but the list at p -/
def SameB (p : Addr) (H H' : Hp) : Prop := ∀ b o, b ≠ p → H b = some o → H' b = some o
theorem SameB.refl (p : Addr) (H : Hp) : SameB p H H := fun _ _ _ h => h
theorem SameB.trans {p : Addr} {H H1 H2 : Hp} (a : SameB p H H1) (b : SameB p H1 H2) : SameB p H H2 := fun c o n h => b c o n (a c o n h)
theorem Same.b {p : Addr} {H H' : Hp} (a : Same H H') : SameB p H H' := fun b o _ h => a b o h
theorem SameB.upd {p : Addr} {H H' : Hp} {o : HO} (a : SameB p H H') : SameB p H (upd H' p o) := fun b u n h => by rw [upd_ne n]; exact a b u n h
theorem same_upd {H : Hp} {p : Addr} {o : HO} (h : H p = none) : Same H (upd H p o) := fun b u e => by rw [upd_ne (ne_of_none e h)]; exact e
/-- the dice at p, rolled at most c times -/
def Dice (p : Addr) (H : Hp) (c : Nat) : Prop := ∃ d0 d1 d2 : Int, H p = some (.lst [.int d0, .int d1, .int d2]) ∧ 0 ≤ d0 ∧ Bd 420 d0 ∧ Bd 200 d1 ∧ 0 ≤ d2 ∧ d2 ≤ c
theorem Dice.same {p : Addr} {H H' : Hp} {c : Nat} (d : Dice p H c) (s : Same H H') : Dice p H' c := by
  obtain ⟨d0, d1, d2, h, r⟩ := d
  exact ⟨d0, d1, d2, s _ _ h, r⟩
theorem Dice.mono {p : Addr} {H : Hp} {c c' : Nat} (d : Dice p H c) (l : c ≤ c') : Dice p H c' := by
  obtain ⟨d0, d1, d2, h, a, b, e, f, g⟩ := d
  exact ⟨d0, d1, d2, h, a, b, e, f, by omega⟩
def spDice (K : PySem.W.Frag) : Sp := fun vs H Q _ => ∃ (a : Addr) (ns : List Int) (s : Int), vs = [.ref a, .int s] ∧ SqL K H a (ns.map V.int) ∧ ns.length ≤ 100 ∧ 0 ≤ s ∧ s ≤ 100 ∧ ∀ p H', Same H H' → H p = none → Dice p H' 0 → Q (.ref p) H'
def spRoll : Sp := fun vs H Q _ => ∃ (p : Addr) (t : Int) (c : Nat), vs = [.ref p, .int t] ∧ Dice p H c ∧ c < 2 ^ 64 ∧ 0 < t ∧ Bd 9000 t ∧ ∀ r H', 0 ≤ r → r < t → SameB p H H' → Dice p H' (c + 1) → Q (.int r) H'
def spPick : Sp := fun vs H Q _ => ∃ (p l : Addr) (xs : List V) (c : Nat), vs = [.ref p, .ref l] ∧ Dice p H c ∧ c < 2 ^ 64 ∧ H l = some (.lst xs) ∧ l ≠ p ∧ 0 < xs.length ∧ xs.length ≤ 1000 ∧ ∀ v H', v ∈ xs → SameB p H H' → Dice p H' (c + 1) → Q v H'
theorem bd_le {i : Int} {n : Nat} (k : Nat) (h : i.natAbs ≤ k) (l : k < 2 ^ n) : Bd n i := Nat.lt_of_le_of_lt h l
theorem bd_mod {i j : Int} {n : Nat} (h : Bd n j) (j0 : 0 < j) : Bd n (i.fmod j) := by
  have e : i.fmod j = i % j := Int.fmod_eq_emod_of_nonneg i (by omega)
  have h1 := Int.emod_nonneg i (show j ≠ 0 by omega)
  have h2 := Int.emod_lt_of_pos i j0
  rw [e]
  exact h.le (by omega)
theorem fmod_range {i j : Int} (j0 : 0 < j) : 0 ≤ i.fmod j ∧ i.fmod j < j := by
  rw [Int.fmod_eq_emod_of_nonneg i (by omega)]
  exact ⟨Int.emod_nonneg i (by omega), Int.emod_lt_of_pos i j0⟩
theorem fdiv_abs {i j : Int} (i0 : 0 ≤ i) (j0 : 0 < j) : 0 ≤ i.fdiv j ∧ (i.fdiv j).natAbs ≤ i.natAbs := by
  rw [Int.fdiv_eq_ediv_of_nonneg i (by omega)]
  have h1 := Int.ediv_nonneg i0 (show 0 ≤ j by omega)
  have h2 := Int.ediv_le_self j i0
  omega
section
variable {P : Program} {w : World} {K : PySem.W.Frag} {mg : Str → Option Value} {base : Heap} {f : Addr} {fd : FuncData}
theorem sc__law_dice : FnScope ["_law_script", "_law_spot", "_law_cell", "_law_left"] ["_law_script", "_law_spot"] (defScope (topS 31)) := ⟨rfl, rfl, rfl, by decide +kernel, rfl, by decide +kernel, by decide +kernel⟩
theorem ok_dice (F : Fun K "_law_dice" "_law_dice" (topS 31) f fd) (fr : Free mg) : FnOk P w K mg base CX0 2 f fd ["_law_script", "_law_spot"] (spDice K) := by
  refine F.ok sc__law_dice (fun vs H Q E ⟨_, _, _, e, _⟩ => by rw [e]; rfl) (fun cdv A outer s H vs Q E hr h => ⟨_, (pss_cons (ps_set (i := 2) sc__law_dice.nd rfl (by first | exact Or.inl rfl | exact Or.inr rfl) (pe_ifExp (pt_cmpR op_lt (pv 1) (pe_callB call_len (by rfl) fr.b_len (by decide +kernel) (pa_cons (pv 0) pa_nil)) (nomark _)) (pe_callTy call_int1 (by rfl) fr.b_int (by decide +kernel) (pa_cons (pe_ix ix_list (pv 0) (pv 1) (fun _ _ => rfl)) pa_nil)) (pe_op op_add (pe_op op_mulX pe_int (pv 1)) pe_int)))
  (pss_cons (ps_set (i := 3) sc__law_dice.nd rfl (by first | exact Or.inl rfl | exact Or.inr rfl) (pe_op op_modN (pe_callB (call_max2 rfl) (by rfl) fr.b_max (by decide +kernel) (pa_cons pe_int (pa_cons (pe_op op_sub (pe_callB call_abs (by rfl) fr.b_abs (by decide +kernel) (pa_cons (pv 2) pa_nil)) (pe_op op_pow pe_int pe_int)) pa_nil))) (pe_op op_mulX (pe_op op_pow pe_int pe_int) (pe_op op_pow pe_int pe_int))))
  (pss_one (ps_ret (pe_lst (pa_cons (pv 3) (pa_cons (pe_op op_add (pe_op op_add (pe_op op_add (pe_op op_mulX (pe_op op_modN (pe_callB call_abs (by rfl) fr.b_abs (by decide +kernel) (pa_cons (pv 2) pa_nil)) pe_int) pe_int) (pe_op op_mulX pe_int (pv 1))) (pe_op op_mulX pe_int (pe_callTy call_int1 (by rfl) fr.b_int (by decide +kernel) (pa_cons (pe_cmpR op_lt (pv 2) pe_int (nomark _)) pa_nil)))) pe_int) (pa_cons pe_int pa_nil)))))))), ?_⟩)
  obtain ⟨a, ns, s, rfl, hS, hl, h0, h100, q⟩ := h
  have bs : Bd 10 s := bd_sm (by omega) (by decide)
  have rest : ∀ c : Int, tSeq (tAsg (tOp (rI (fun _ j => j ≠ 0) fun i j => .int (i.fmod j)) (tCB (fun xs H Q => ∃ i j, xs = [.int i, .int j] ∧ Q (.int (if j > i then j else i)) H) (tCons (tC (.int 0)) (tCons (tOp (rI0 fun i j => .int (i - j)) (tCB (fun xs H Q => ∃ i, xs = [.int i] ∧ Q (.int (if i < 0 then -i else i)) H) (tCons (tVar 2) tNil)) (tOp (rI CPow fun i j => .int (i ^ j.toNat)) (tC (.int 10)) (tC (.int 16)))) tNil)))
      (tOp (rI CMulX fun i j => .int (i * j)) (tOp (rI CPow fun i j => .int (i ^ j.toNat)) (tC (.int 10)) (tC (.int 60))) (tOp (rI CPow fun i j => .int (i ^ j.toNat)) (tC (.int 10)) (tC (.int 60))))) (gName 3))
      (tRet (tLst (tCons (tVar 3) (tCons (tOp (rI0 fun i j => .int (i + j)) (tOp (rI0 fun i j => .int (i + j)) (tOp (rI0 fun i j => .int (i + j)) (tOp (rI CMulX fun i j => .int (i * j)) (tOp (rI (fun _ j => j ≠ 0) fun i j => .int (i.fmod j)) (tCB (fun xs H Q => ∃ i, xs = [.int i] ∧ Q (.int (if i < 0 then -i else i)) H) (tCons (tVar 2) tNil)) (tC (.int 1152921504606846883))) (tC (.int 47)))
        (tOp (rI CMulX fun i j => .int (i * j)) (tC (.int 809)) (tVar 1))) (tOp (rI CMulX fun i j => .int (i * j)) (tC (.int 31)) (tCB (fun xs H Q => (∃ i, xs = [.int i] ∧ Q (.int i) H) ∨ ∃ k, xs = [.bl k] ∧ Q (.int (if k then 1 else 0)) H) (tCons (tOp (rI0 fun i j => .bl (decide (i < j))) (tVar 2) (tC (.int 0))) tNil)))) (tC (.int 7))) (tCons (tC (.int 0)) tNil)))))
      { nx := fun _ H' => Q .non H', rt := Q } [some (.ref a), some (.int s), some (.int c), none] H := fun c => by
    have m1 : Bd 200 ((10 : Int) ^ 60) := bd_le (10 ^ 60) (by decide) (by decide)
    have nz : (10 : Int) ^ 60 * 10 ^ 60 ≠ 0 := by decide
    refine ⟨_, rfl, _, rfl, _, _, rfl, rfl, ⟨by decide, by decide, by decide⟩, _, _, rfl, rfl, _, _, rfl, _, _, rfl, rfl, ⟨by decide, by decide, by decide⟩, _, _, rfl, rfl, ⟨by decide, by decide, by decide⟩, _, _, rfl, rfl, m1.mulx m1 (by decide), _, _, rfl, rfl, nz, ?_⟩
    have km : Bd 61 (((if c < 0 then -c else c) : Int).fmod 1152921504606846883) := bd_mod (bd_le 1152921504606846883 (by decide) (by decide)) (by decide)
    have b47 : Bd 10 47 := bd_sm (by decide) (by decide)
    have b809 : Bd 10 809 := bd_sm (by decide) (by decide)
    have b31 : Bd 10 31 := bd_sm (by decide) (by decide)
    have bk : ∀ k : Bool, Bd 10 (if k then 1 else 0 : Int) := fun k => by cases k <;> exact bd_sm (by decide) (by decide)
    refine ⟨_, rfl, _, rfl, _, rfl, _, _, rfl, rfl, (by decide : (1152921504606846883 : Int) ≠ 0), _, _, rfl, rfl, km.mulx b47 (by decide), _, rfl, _, _, rfl, rfl, b809.mulx bs (by decide), _, _, rfl, rfl, _, rfl, _, _, rfl, rfl, .inr ⟨_, rfl, _, _, rfl, rfl, b31.mulx (bk _) (by decide), _, _, rfl, rfl, _, _, rfl, rfl, ?_⟩⟩
    refine ⟨by show 3 ≤ sizeLine; decide, fun p hp => q p _ (same_upd hp) hp ⟨_, _, _, upd_same, ?_, ?_, ?_, by decide, by decide⟩⟩
    · exact (fmod_range (by decide)).1
    · exact (bd_mod (m1.mul m1) (by decide)).mono (by decide)
    · refine Bd.add (n := 199) ?_ (bd_sm (by decide) (by decide)) rfl
      refine Bd.add (n := 198) ?_ ((b31.mul (bk _)).mono (by decide)) rfl
      exact Bd.add (n := 197) ((km.mul b47).mono (by decide)) ((b809.mul bs).mono (by decide)) rfl
  refine ⟨_, rfl, _, rfl, _, (ns.map V.int).length, rfl, Or.inl ⟨_, hS, rfl⟩, _, _, rfl, rfl, _, rfl, ite_dec (fun c => ?_) fun c => ?_⟩
  · rw [List.length_map] at c
    obtain ⟨j, rfl⟩ : ∃ j : Nat, s = (j : Int) := ⟨s.toNat, by omega⟩
    have hj : j < ns.length := by omega
    have g : (ns.map V.int)[j]? = some (.int ns[j]) := by rw [List.getElem?_map, List.getElem?_eq_getElem hj]; rfl
    exact ⟨_, rfl, _, rfl, a, _, _, _, rfl, rfl, hS, atI_nat g, .inl ⟨_, rfl, rest _⟩⟩
  · have b67 : Bd 10 67 := bd_sm (by decide) (by decide)
    exact ⟨_, rfl, _, _, rfl, rfl, b67.mulx bs (by decide), _, _, rfl, rfl, rest _⟩
theorem sc__law_roll : FnScope ["_law_dice_here", "_law_total", "_law_found", "_law_one", "_law_two"] ["_law_dice_here", "_law_total"] (defScope (topS 32)) := ⟨rfl, rfl, rfl, by decide +kernel, rfl, by decide +kernel, by decide +kernel⟩
theorem ok_roll (F : Fun K "_law_roll" "_law_roll" (topS 32) f fd) (fr : Free mg) : FnOk P w K mg base CX0 2 f fd ["_law_dice_here", "_law_total"] spRoll := by
  refine F.ok sc__law_roll (fun vs H Q E ⟨_, _, _, e, _⟩ => by rw [e]; rfl) (fun cdv A outer s H vs Q E hr h => ⟨_, (pss_cons (ps_if (pt_cmpR op_gt (pe_ix ix_list (pv 0) pe_int (fun _ _ => rfl)) pe_int (nomark _)) (pss_cons (ps_set (i := 2) sc__law_roll.nd rfl (by first | exact Or.inl rfl | exact Or.inr rfl) (pe_op op_modN (pe_callTy call_int1 (by rfl) fr.b_int (by decide +kernel) (pa_cons (pe_ix ix_list (pv 0) pe_int (fun _ _ => rfl)) pa_nil)) (pv 1)))
  (pss_cons (ps_asg (pe_op op_fdivZ (pe_ix ix_list (pv 0) pe_int (fun _ _ => rfl)) (pv 1)) (pg_sub (pv 0) pe_int set_list))
  (pss_one (ps_ret (pv 2))))) pss_nil)
  (pss_cons (ps_asg (pe_op op_add (pe_ix ix_list (pv 0) pe_int (fun _ _ => rfl)) pe_int) (pg_sub (pv 0) pe_int set_list))
  (pss_cons (ps_set (i := 3) sc__law_roll.nd rfl (by first | exact Or.inl rfl | exact Or.inr rfl) (pe_op op_modN (pe_callTy call_int1 (by rfl) fr.b_int (by decide +kernel) (pa_cons (pe_op op_add (pe_ix ix_list (pv 0) pe_int (fun _ _ => rfl)) (pe_op op_mulX pe_int (pe_ix ix_list (pv 0) pe_int (fun _ _ => rfl)))) pa_nil)) pe_int))
  (pss_cons (ps_set (i := 4) sc__law_roll.nd rfl (by first | exact Or.inl rfl | exact Or.inr rfl) (pe_op op_add (pe_op op_mulX (pe_op op_modN (pe_callTy call_int1 (by rfl) fr.b_int (by decide +kernel) (pa_cons (pe_op op_add (pe_op op_mulX (pv 3) (pv 3)) (pe_op op_mulX pe_int (pe_ix ix_list (pv 0) pe_int (fun _ _ => rfl)))) pa_nil)) pe_int) pe_int) (pv 3)))
  (pss_one (ps_ret (pe_op op_modN (pe_callTy call_int1 (by rfl) fr.b_int (by decide +kernel) (pa_cons (pe_op op_fdivZ (pv 4) pe_int) pa_nil)) (pv 1)))))))), ?_⟩)
  obtain ⟨p, t, c, rfl, ⟨d0, d1, d2, hp, p0, b0, b1, p2, l2⟩, hc, t0, bt, q⟩ := h
  have g0 : ∀ x y z : V, atI [x, y, z] 0 = some x := fun x y z => atI_nat (j := 0) rfl
  have g1 : ∀ x y z : V, atI [x, y, z] 1 = some y := fun x y z => atI_nat (j := 1) rfl
  have g2 : ∀ x y z : V, atI [x, y, z] 2 = some z := fun x y z => atI_nat (j := 2) rfl
  refine ⟨_, rfl, p, _, _, _, rfl, rfl, .of hp, g0 _ _ _, _, _, rfl, rfl, _, rfl, ite_dec (fun c0 => ?_) fun c0 => ?_⟩
  · obtain ⟨r1, r2⟩ := fmod_range (i := d0) t0
    obtain ⟨r3, r4⟩ := fdiv_abs p0 t0
    refine ⟨_, rfl, p, _, _, _, rfl, rfl, .of hp, g0 _ _ _, .inl ⟨_, rfl, _, rfl, _, _, rfl, rfl, (by omega : t ≠ 0), _, rfl, p, _, _, _, rfl, rfl, .of hp, g0 _ _ _, _, rfl, _, _, rfl, rfl, bt.dvz (by omega) (Nat.le_refl _), _, rfl, p, _, _, 0, rfl, rfl, hp, rfl, _, rfl, ?_⟩⟩
    refine q _ _ r1 r2 (SameB.refl p H).upd ⟨_, _, _, upd_same, r3, b0.le r4, b1, p2, by omega⟩
  refine ⟨_, rfl, p, _, _, _, rfl, rfl, .of hp, g2 _ _ _, _, _, rfl, rfl, _, rfl, p, _, _, 2, rfl, rfl, hp, rfl, ?_⟩
  have hq : upd H p (.lst ([V.int d0, .int d1, .int d2].set 2 (.int (d2 + 1)))) p = some (.lst [.int d0, .int d1, .int (d2 + 1)]) := upd_same
  generalize hG : upd H p (.lst ([V.int d0, .int d1, .int d2].set 2 (.int (d2 + 1)))) = G at hq ⊢
  have sG : SameB p H G := by rw [← hG]; exact (SameB.refl p H).upd
  have bd2 : Bd 100 (d2 + 1) := bd_le (2 ^ 64) (by omega) (by decide)
  have bk : Bd 26 32452843 := bd_le 32452843 (by decide) (by decide)
  have b97 : Bd 10 97 := bd_sm (by decide) (by decide)
  refine ⟨_, rfl, p, _, _, _, rfl, rfl, .of hq, g1 _ _ _, _, rfl, p, _, _, _, rfl, rfl, .of hq, g2 _ _ _, _, _, rfl, rfl, bk.mulx bd2 (by decide), _, _, rfl, rfl, .inl ⟨_, rfl, _, _, rfl, rfl, (by decide : (2305843009213693951 : Int) ≠ 0), ?_⟩⟩
  have bo := bd_mod (i := d1 + 32452843 * (d2 + 1)) (j := 2305843009213693951) (n := 62) (bd_le 2305843009213693951 (by decide) (by decide)) (by decide)
  have bt2 := fun i : Int => bd_mod (i := i) (j := 2305843009213693921) (n := 62) (bd_le 2305843009213693921 (by decide) (by decide)) (by decide)
  have b7 : Bd 23 7368787 := bd_le 7368787 (by decide) (by decide)
  refine ⟨_, rfl, _, rfl, _, _, rfl, rfl, bo.mulx bo (by decide), _, rfl, p, _, _, _, rfl, rfl, .of hq, g2 _ _ _, _, _, rfl, rfl, b97.mulx bd2 (by decide), _, _, rfl, rfl, .inl ⟨_, rfl, _, _, rfl, rfl, (by decide : (2305843009213693921 : Int) ≠ 0), _, _, rfl, rfl, (bt2 _).mulx b7 (by decide), _, rfl, _, _, rfl, rfl, ?_⟩⟩
  have b6 : Bd 17 65536 := bd_le 65536 (by decide) (by decide)
  refine ⟨_, rfl, _, _, rfl, rfl, b6.dvz (by decide) (by decide), .inl ⟨_, rfl, _, rfl, _, _, rfl, rfl, (by omega : t ≠ 0), ?_⟩⟩
  exact q _ _ (fmod_range t0).1 (fmod_range t0).2 sG ⟨_, _, _, hq, p0, b0, b1, by omega, by omega⟩
theorem sc__law_pick : FnScope ["_law_dice_here", "_law_items"] ["_law_dice_here", "_law_items"] (defScope (topS 33)) := ⟨rfl, rfl, rfl, by decide +kernel, rfl, by decide +kernel, by decide +kernel⟩
theorem ok_pick (F : Fun K "_law_pick" "_law_pick" (topS 33) f fd) (fr : Free mg) (G__law_roll : GD P w K mg base "_law_roll" 2 spRoll) : FnOk P w K mg base CX0 3 f fd ["_law_dice_here", "_law_items"] spPick := by
  refine F.ok sc__law_pick (fun vs H Q E ⟨_, _, _, _, e, _⟩ => by rw [e]; rfl) (fun cdv A outer s H vs Q E hr h => ⟨_, (pss_one (ps_ret (pe_ix ix_list (pv 1) (pe_c1 G__law_roll (hr.mono (by decide)) (pa_cons (pv 0) (pa_cons (pe_callB call_len (by rfl) fr.b_len (by decide +kernel) (pa_cons (pv 1) pa_nil)) pa_nil))) (fun _ _ => rfl)))), ?_⟩)
  obtain ⟨p, l, xs, c, rfl, hd, hc, hl, ne, h0, h1, q⟩ := h
  refine ⟨_, rfl, _, rfl, _, rfl, _, xs.length, rfl, .inl ⟨_, .of hl, rfl⟩, p, _, c, rfl, hd, hc, by omega, bd_le 1000 (by omega) (by decide), fun r H' r0 r1 s1 hd' => ?_⟩
  obtain ⟨j, rfl⟩ : ∃ j : Nat, r = (j : Int) := ⟨r.toNat, by omega⟩
  have hj : j < xs.length := by omega
  exact ⟨l, xs, _, _, rfl, rfl, .of (s1 _ _ ne hl), atI_nat (List.getElem?_eq_getElem hj), q _ _ (List.getElem_mem hj) s1 hd'⟩
end
end PF

set_option Elab.async false
set_option linter.all false
set_option maxRecDepth 100000
set_option maxHeartbeats 4000000
namespace PF
/-! ### least forms -/
theorem gcd3_pos {t p b : Int} (h : b ≠ 0) : 0 < gcd3 t p b := by
  unfold gcd3
  have : 0 < Nat.gcd (Nat.gcd t.natAbs p.natAbs) b.natAbs := Nat.gcd_pos_of_pos_right _ (by omega)
  omega
theorem share_dvd {t p b : Int} : share t p b ∣ t ∧ share t p b ∣ p ∧ share t p b ∣ b := by
  have h : gcd3 t p b ∣ t ∧ gcd3 t p b ∣ p ∧ gcd3 t p b ∣ b := by
    unfold gcd3
    refine ⟨?_, ?_, ?_⟩
    · exact Int.ofNat_dvd_left.mpr (Nat.dvd_trans (Nat.gcd_dvd_left _ _) (Nat.gcd_dvd_left _ _))
    · exact Int.ofNat_dvd_left.mpr (Nat.dvd_trans (Nat.gcd_dvd_left _ _) (Nat.gcd_dvd_right _ _))
    · exact Int.ofNat_dvd_left.mpr (Nat.gcd_dvd_right _ _)
  unfold share
  split
  · exact h
  · exact ⟨Int.neg_dvd.mpr h.1, Int.neg_dvd.mpr h.2.1, Int.neg_dvd.mpr h.2.2⟩
theorem fdiv_mul {a s : Int} (h : s ∣ a) : a.fdiv s * s = a := Int.fdiv_mul_cancel h
/-- what the least form stands for -/
theorem mkNm_val (t p r : Int) {b : Int} (h : b ≠ 0) : (mkNm t p r b).t * b = t * (mkNm t p r b).b ∧ (mkNm t p r b).p * b = p * (mkNm t p r b).b ∧ 0 < (mkNm t p r b).b := by
  obtain ⟨h1, h2, h3⟩ := share_dvd (t := t) (p := p) (b := b)
  have s0 := share_ne (t := t) (p := p) h
  have e1 := fdiv_mul h1
  have e2 := fdiv_mul h2
  have e3 := fdiv_mul h3
  have hs : 0 < b ↔ 0 < share t p b := by
    unfold share
    have := gcd3_pos (t := t) (p := p) h
    split <;> omega
  show t.fdiv (share t p b) * b = t * b.fdiv (share t p b) ∧ p.fdiv (share t p b) * b = p * b.fdiv (share t p b) ∧ 0 < b.fdiv (share t p b)
  generalize share t p b = s at *
  generalize t.fdiv s = t1 at *
  generalize p.fdiv s = p1 at *
  generalize b.fdiv s = b1 at *
  subst e1 e2 e3
  refine ⟨by grind, by grind, ?_⟩
  rcases Int.lt_trichotomy b1 0 with c | c | c
  · rcases Int.lt_trichotomy s 0 with d | d | d
    · have := Int.mul_pos_of_neg_of_neg c d; omega
    · omega
    · have := Int.mul_neg_of_neg_of_pos c d; omega
  · subst c; simp at h
  · exact c
/-- a number in its least form -/
structure Nrm (n : Nm) : Prop where
  b : 0 < n.b
  g : gcd3 n.t n.p n.b = 1
  r : n.p = 0 → n.r = 0
theorem gcd3_mul (t p b : Int) (s : Int) : gcd3 (t * s) (p * s) (b * s) = gcd3 t p b * s.natAbs := by
  unfold gcd3
  rw [Int.natAbs_mul, Int.natAbs_mul, Int.natAbs_mul, Nat.gcd_mul_right, Nat.gcd_mul_right]
  simp
theorem mkNm_nrm (t p r : Int) {b : Int} (h : b ≠ 0) : Nrm (mkNm t p r b) := by
  obtain ⟨h1, h2, h3⟩ := share_dvd (t := t) (p := p) (b := b)
  have s0 := share_ne (t := t) (p := p) h
  have e1 := fdiv_mul h1
  have e2 := fdiv_mul h2
  have e3 := fdiv_mul h3
  have ab : ((share t p b).natAbs : Int) = gcd3 t p b := by
    have := gcd3_pos (t := t) (p := p) h
    unfold share
    split <;> omega
  refine ⟨(mkNm_val t p r h).2.2, ?_, ?_⟩
  · show gcd3 (t.fdiv (share t p b)) (p.fdiv (share t p b)) (b.fdiv (share t p b)) = 1
    have k := gcd3_mul (t.fdiv (share t p b)) (p.fdiv (share t p b)) (b.fdiv (share t p b)) (share t p b)
    rw [e1, e2, e3, ab] at k
    have g0 := gcd3_pos (t := t) (p := p) h
    have z : (gcd3 (t.fdiv (share t p b)) (p.fdiv (share t p b)) (b.fdiv (share t p b)) - 1) * gcd3 t p b = 0 := by
      rw [Int.sub_mul, ← k]; omega
    rcases Int.mul_eq_zero.mp z with z | z <;> omega
  · intro hp
    show (if p = 0 then 0 else r) = 0
    rw [if_pos]
    have hp' : p.fdiv (share t p b) = 0 := hp
    rw [hp'] at e2
    omega
theorem nrm_ext {a c : Nm} (ha : Nrm a) (hc : Nrm c) (h1 : a.t * c.b = c.t * a.b) (h2 : a.p * c.b = c.p * a.b) (h3 : a.p ≠ 0 → a.r = c.r) : a = c := by
  have gb := ha.b
  have gc := hc.b
  have k1 : gcd3 (a.t * c.b) (a.p * c.b) (a.b * c.b) = c.b := by
    rw [gcd3_mul, ha.g]; omega
  have k2 : gcd3 (c.t * a.b) (c.p * a.b) (c.b * a.b) = a.b := by
    rw [gcd3_mul, hc.g]; omega
  have e : a.b = c.b := by
    rw [h1, h2, Int.mul_comm a.b c.b] at k1
    exact k2.symm.trans k1
  obtain ⟨at_, ap, ar, ab⟩ := a
  obtain ⟨ct, cp, cr, cb⟩ := c
  dsimp only at *
  subst e
  have e1 : at_ = ct := Int.eq_of_mul_eq_mul_right (by omega) h1
  have e2 : ap = cp := Int.eq_of_mul_eq_mul_right (by omega) h2
  subst e1 e2
  by_cases c : ap = 0
  · have := ha.r c; have := hc.r c; simp_all
  · rw [show ar = cr from h3 c]
theorem mkNm_congr {t p r b t' p' r' b' : Int} (h : b ≠ 0) (h' : b' ≠ 0) (e1 : t * b' = t' * b) (e2 : p * b' = p' * b) (e3 : p ≠ 0 → r = r') : mkNm t p r b = mkNm t' p' r' b' := by
  obtain ⟨v1, v2, v3⟩ := mkNm_val t p r h
  obtain ⟨w1, w2, w3⟩ := mkNm_val t' p' r' h'
  have n1 := mkNm_nrm t p r h
  have n2 := mkNm_nrm t' p' r' h'
  have hb : b * b' ≠ 0 := Int.mul_ne_zero h h'
  refine nrm_ext n1 n2 ?_ ?_ ?_
  · generalize mkNm t p r b = x at *
    generalize mkNm t' p' r' b' = y at *
    refine Int.eq_of_mul_eq_mul_right hb ?_
    have : x.t * y.b * (b * b') = (x.t * b) * (y.b * b') := by grind
    have : y.t * x.b * (b * b') = (y.t * b') * (x.b * b) := by grind
    grind
  · generalize mkNm t p r b = x at *
    generalize mkNm t' p' r' b' = y at *
    refine Int.eq_of_mul_eq_mul_right hb ?_
    grind
  · intro hp
    have p0 : p ≠ 0 := fun z => by
      rw [z] at v2
      have : (mkNm t p r b).p * b = 0 := by rw [z]; simpa using v2
      rcases Int.mul_eq_zero.mp this with q | q
      · exact hp q
      · exact h q
    have p1 : p' ≠ 0 := fun z => by
      rw [z] at e2
      rcases Int.mul_eq_zero.mp (show p * b' = 0 by simpa using e2) with q | q
      · exact p0 q
      · exact h' q
    show (if p = 0 then 0 else r) = (if p' = 0 then 0 else r')
    rw [if_neg p0, if_neg p1, e3 p0]
theorem mkNm_self {n : Nm} (h : Nrm n) : mkNm n.t n.p n.r n.b = n := by
  have b0 : n.b ≠ 0 := by have := h.b; omega
  refine nrm_ext (mkNm_nrm _ _ _ b0) h (mkNm_val n.t n.p n.r b0).1 (mkNm_val n.t n.p n.r b0).2.1 fun hp => ?_
  show (if n.p = 0 then 0 else n.r) = n.r
  split
  · next c => exact (h.r c).symm
  · rfl
/-! ### numbers of one root -/
/-- n stands for (t + p s) / b, s the root of R -/
structure Rt (R : Int) (n : Nm) (t p b : Int) : Prop where
  nrm : Nrm n
  b0 : b ≠ 0
  vt : n.t * b = t * n.b
  vp : n.p * b = p * n.b
  root : n.p ≠ 0 → n.r = R
theorem Rt.mk' {R t p b : Int} {r : Int} (h : b ≠ 0) (hr : p ≠ 0 → r = R) : Rt R (mkNm t p r b) t p b := by
  obtain ⟨v1, v2, v3⟩ := mkNm_val t p r h
  refine ⟨mkNm_nrm t p r h, h, v1, v2, fun hp => ?_⟩
  show (if p = 0 then 0 else r) = R
  split
  · next c =>
    subst c
    rcases Int.mul_eq_zero.mp (show (mkNm t 0 r b).p * b = 0 by simpa using v2) with q | q
    · exact absurd q hp
    · exact absurd q h
  · next c => exact hr c
theorem Rt.self {R : Int} {n : Nm} (h : Nrm n) (hr : n.p ≠ 0 → n.r = R) : Rt R n n.t n.p n.b := ⟨h, by have := h.b; omega, rfl, rfl, hr⟩
theorem Rt.uniq {R t p b t' p' b' : Int} {n m : Nm} (h : Rt R n t p b) (k : Rt R m t' p' b') (e1 : t * b' = t' * b) (e2 : p * b' = p' * b) : n = m := by
  have gb := h.nrm.b
  have gc := k.nrm.b
  have hb : b * b' ≠ 0 := Int.mul_ne_zero h.b0 k.b0
  have q1 := h.vt
  have q2 := h.vp
  have q3 := k.vt
  have q4 := k.vp
  have x2 : n.p * m.b = m.p * n.b := by
    refine Int.eq_of_mul_eq_mul_right hb ?_
    grind
  refine nrm_ext h.nrm k.nrm (Int.eq_of_mul_eq_mul_right hb (by grind)) x2 fun hp => ?_
  have mp : m.p ≠ 0 := fun z => by
    rw [z] at x2
    rcases Int.mul_eq_zero.mp (show n.p * m.b = 0 by simpa using x2) with q | q
    · exact hp q
    · omega
  rw [h.root hp, k.root mp]
section
variable {R ta pa ba tb pb bb : Int} {a b : Nm}
theorem cRoot_of (h : Rt R a ta pa ba) (k : Rt R b tb pb bb) (hp : a.p ≠ 0 ∨ b.p ≠ 0) (hR : R ≠ 0) : cRoot a b = R := by
  unfold cRoot
  split
  · next c =>
    rcases hp with hp | hp
    · exact absurd ((h.root hp).symm.trans c) hR
    · exact k.root hp
  · next c =>
    refine h.root fun z => c (h.nrm.r z)
theorem Rt.bnz (h : Rt R a ta pa ba) (k : Rt R b tb pb bb) : a.b * b.b ≠ 0 := Int.mul_ne_zero (by have := h.nrm.b; omega) (by have := k.nrm.b; omega)
/-- with a root there is none but it; without, all parts are 0 -/
theorem Rt.zero (h : Rt 0 a ta pa ba) (hz : ∀ n : Nm, n = a → n.p ≠ 0 → n.r ≠ 0) : a.p = 0 := Classical.byContradiction fun hp => hz a rfl hp (h.root hp)
theorem Rt.cm (h : Rt R a ta pa ba) (k : Rt R b tb pb bb) : Cm a b := by
  unfold Cm
  by_cases c : a.p = 0
  · exact .inl (h.nrm.r c)
  by_cases d : b.p = 0
  · exact .inr (.inl (k.nrm.r d))
  · exact .inr (.inr ((h.root c).trans (k.root d).symm))
theorem cRoot_p (h : Rt R a ta pa ba) (k : Rt R b tb pb bb) (hz : R = 0 → a.p = 0 ∧ b.p = 0) : cRoot a b * a.p = R * a.p ∧ cRoot a b * b.p = R * b.p := by
  by_cases hR : R = 0
  · obtain ⟨z1, z2⟩ := hz hR
    rw [z1, z2]; simp
  · refine ⟨?_, ?_⟩
    · by_cases c : a.p = 0
      · rw [c]; simp
      · rw [cRoot_of h k (.inl c) hR]
    · by_cases c : b.p = 0
      · rw [c]; simp
      · rw [cRoot_of h k (.inr c) hR]
variable (hz : R = 0 → a.p = 0 ∧ b.p = 0)
include hz
theorem Rt.add (h : Rt R a ta pa ba) (k : Rt R b tb pb bb) : Rt R (addN a b) (ta * bb + tb * ba) (pa * bb + pb * ba) (ba * bb) := by
  have hb := Int.mul_ne_zero h.b0 k.b0
  have e : Rt R (addN a b) (a.t * b.b + b.t * a.b) (a.p * b.b + b.p * a.b) (a.b * b.b) := Rt.mk' (h.bnz k) fun hp => by
    by_cases hR : R = 0
    · obtain ⟨z1, z2⟩ := hz hR; exact absurd (by rw [z1, z2]; simp) hp
    refine cRoot_of h k (Classical.byContradiction fun c => ?_) hR
    have c1 : a.p = 0 := Classical.byContradiction fun z => c (.inl z)
    have c2 : b.p = 0 := Classical.byContradiction fun z => c (.inr z)
    exact hp (by rw [c1, c2]; simp)
  obtain ⟨n, _, v1, v2, r⟩ := e
  have q1 := h.vt
  have q2 := h.vp
  have q3 := k.vt
  have q4 := k.vp
  have nz := h.bnz k
  refine ⟨n, hb, Int.eq_of_mul_eq_mul_right nz ?_, Int.eq_of_mul_eq_mul_right nz ?_, r⟩ <;> grind
theorem Rt.sub (h : Rt R a ta pa ba) (k : Rt R b tb pb bb) : Rt R (subN a b) (ta * bb - tb * ba) (pa * bb - pb * ba) (ba * bb) := by
  have hb := Int.mul_ne_zero h.b0 k.b0
  have e : Rt R (subN a b) (a.t * b.b - b.t * a.b) (a.p * b.b - b.p * a.b) (a.b * b.b) := Rt.mk' (h.bnz k) fun hp => by
    by_cases hR : R = 0
    · obtain ⟨z1, z2⟩ := hz hR; exact absurd (by rw [z1, z2]; simp) hp
    refine cRoot_of h k (Classical.byContradiction fun c => ?_) hR
    have c1 : a.p = 0 := Classical.byContradiction fun z => c (.inl z)
    have c2 : b.p = 0 := Classical.byContradiction fun z => c (.inr z)
    exact hp (by rw [c1, c2]; simp)
  obtain ⟨n, _, v1, v2, r⟩ := e
  have q1 := h.vt
  have q2 := h.vp
  have q3 := k.vt
  have q4 := k.vp
  have nz := h.bnz k
  refine ⟨n, hb, Int.eq_of_mul_eq_mul_right nz ?_, Int.eq_of_mul_eq_mul_right nz ?_, r⟩ <;> grind
theorem Rt.mul (h : Rt R a ta pa ba) (k : Rt R b tb pb bb) : Rt R (mulN a b) (ta * tb + pa * pb * R) (ta * pb + pa * tb) (ba * bb) := by
  have hb := Int.mul_ne_zero h.b0 k.b0
  have e : Rt R (mulN a b) (a.t * b.t + a.p * b.p * cRoot a b) (a.t * b.p + a.p * b.t) (a.b * b.b) := Rt.mk' (h.bnz k) fun hp => by
    by_cases hR : R = 0
    · obtain ⟨z1, z2⟩ := hz hR; exact absurd (by rw [z1, z2]; simp) hp
    refine cRoot_of h k (Classical.byContradiction fun c => ?_) hR
    have c1 : a.p = 0 := Classical.byContradiction fun z => c (.inl z)
    have c2 : b.p = 0 := Classical.byContradiction fun z => c (.inr z)
    exact hp (by rw [c1, c2]; simp)
  obtain ⟨n, _, v1, v2, r⟩ := e
  have q1 := h.vt
  have q2 := h.vp
  have q3 := k.vt
  have q4 := k.vp
  have nz := h.bnz k
  have cp := (cRoot_p h k hz).1
  have v1' : (mulN a b).t * (a.b * b.b) = (a.t * b.t + a.p * b.p * R) * (mulN a b).b := by rw [v1]; grind
  refine ⟨n, hb, Int.eq_of_mul_eq_mul_right nz ?_, Int.eq_of_mul_eq_mul_right nz ?_, r⟩ <;> grind
theorem sizeN_eq (h : Rt R a ta pa ba) (k : Rt R b tb pb bb) : sizeN a b = b.t * b.t - b.p * b.p * R := by
  have cp := (cRoot_p h k hz).2
  unfold sizeN
  grind
theorem Rt.over (h : Rt R a ta pa ba) (k : Rt R b tb pb bb) (s0 : sizeN a b ≠ 0) : Rt R (overN a b) ((a.t * b.t - a.p * b.p * R) * b.b) ((a.p * b.t - a.t * b.p) * b.b) (sizeN a b * a.b) := by
  have cp := (cRoot_p h k hz).1
  have e : Rt R (overN a b) ((a.t * b.t - a.p * b.p * cRoot a b) * b.b) ((a.p * b.t - a.t * b.p) * b.b) (sizeN a b * a.b) := Rt.mk' (Int.mul_ne_zero s0 (by have := h.nrm.b; omega)) fun hp => by
    by_cases hR : R = 0
    · obtain ⟨z1, z2⟩ := hz hR; exact absurd (by rw [z1, z2]; simp) hp
    refine cRoot_of h k (Classical.byContradiction fun c => ?_) hR
    have c1 : a.p = 0 := Classical.byContradiction fun z => c (.inl z)
    have c2 : b.p = 0 := Classical.byContradiction fun z => c (.inr z)
    exact hp (by rw [c1, c2]; simp)
  have e2 : (a.t * b.t - a.p * b.p * R) * b.b = (a.t * b.t - a.p * b.p * cRoot a b) * b.b := by grind
  rw [e2]
  exact e
end
end PF

set_option Elab.async false
set_option linter.all false
set_option maxRecDepth 100000
set_option maxHeartbeats 4000000
namespace PF
/-- a number of the law: in its least form, its root R or none -/
structure Okn (R : Int) (n : Nm) : Prop where
  nrm : Nrm n
  root : n.p ≠ 0 → n.r = R
  zero : R = 0 → n.p = 0
/-- a root of the law, or none -/
def okR (R : Int) : Prop := R = 0 ∨ R = 2 ∨ R = 3 ∨ R = 5 ∨ R = 7 ∨ R = 30 ∨ R = 997
theorem sq_dvd {x y r : Nat} (y0 : y ≠ 0) (h : x * x = y * y * r) : ∃ z, z * z = r := by
  have g0 : 0 < Nat.gcd x y := Nat.gcd_pos_of_pos_right _ (by omega)
  obtain ⟨a, ha⟩ := Nat.gcd_dvd_left x y
  obtain ⟨b, hb⟩ := Nat.gcd_dvd_right x y
  have co : Nat.Coprime a b := by
    have k : Nat.gcd (Nat.gcd x y * a) (Nat.gcd x y * b) = Nat.gcd x y := by rw [← ha, ← hb]
    rw [Nat.gcd_mul_left] at k
    exact Nat.eq_of_mul_eq_mul_left g0 (by rw [k, Nat.mul_one])
  generalize Nat.gcd x y = g at *
  subst ha hb
  have e : a * a = b * b * r := Nat.eq_of_mul_eq_mul_left (Nat.mul_pos g0 g0) (by grind)
  have c2 : Nat.Coprime (b * b) (a * a) := (Nat.Coprime.mul_left (co.mul_right co) (co.mul_right co)).symm
  have one : b * b = 1 := Nat.Coprime.eq_one_of_dvd c2 ⟨r, e⟩
  exact ⟨a, by rw [e, one, Nat.one_mul]⟩
theorem nsq {z r : Nat} (n : Nat) (h : z * z = r) (l : n * n < r) (u : r < (n + 1) * (n + 1)) : False := by
  have h1 : n < z := Nat.lt_of_not_le fun k => by have := Nat.mul_le_mul k k; omega
  have h2 : z < n + 1 := Nat.lt_of_not_le fun k => by have := Nat.mul_le_mul k k; omega
  omega
theorem irr {R x y : Int} (hR : okR R) (r0 : R ≠ 0) (y0 : y ≠ 0) : x * x ≠ y * y * R := fun h => by
  have key : x.natAbs * x.natAbs = y.natAbs * y.natAbs * R.natAbs := by
    rw [← Int.natAbs_mul, ← Int.natAbs_mul, ← Int.natAbs_mul, h]
  obtain ⟨z, hz⟩ := sq_dvd (by omega) key
  rcases hR with rfl | rfl | rfl | rfl | rfl | rfl | rfl
  · exact r0 rfl
  · exact nsq 1 hz (by decide) (by decide)
  · exact nsq 1 hz (by decide) (by decide)
  · exact nsq 2 hz (by decide) (by decide)
  · exact nsq 2 hz (by decide) (by decide)
  · exact nsq 5 hz (by decide) (by decide)
  · exact nsq 31 hz (by decide) (by decide)
theorem okR_nn {R : Int} (h : okR R) : 0 ≤ R ∧ R ≤ 997 := by unfold okR at h; omega
theorem okR_bd {R : Int} (h : okR R) : Bd 10 R := bd_sm (by have := okR_nn h; omega) (by decide)
theorem okR_root {R : Int} (h : okR R) (r0 : R ≠ 0) : isRootB R = true := by
  rcases h with rfl | rfl | rfl | rfl | rfl | rfl | rfl
  · exact absurd rfl r0
  all_goals decide +kernel
section
variable {R : Int} {n a b c : Nm}
theorem Okn.r0 (h : Okn R n) (hR : okR R) : 0 ≤ n.r := by
  by_cases c : n.p = 0
  · rw [h.nrm.r c]; exact Int.le_refl 0
  · rw [h.root c]; exact (okR_nn hR).1
theorem Okn.rb (h : Okn R n) (hR : okR R) : Bd 10 n.r := by
  by_cases c : n.p = 0
  · rw [h.nrm.r c]; exact bd_sm (by decide) (by decide)
  · rw [h.root c]; exact okR_bd hR
theorem Okn.rt (h : Okn R n) : Rt R n n.t n.p n.b := Rt.self h.nrm h.root
theorem Okn.hz (h : Okn R a) (k : Okn R b) : R = 0 → a.p = 0 ∧ b.p = 0 := fun z => ⟨h.zero z, k.zero z⟩
theorem Okn.cm (h : Okn R a) (k : Okn R b) : Cm a b := h.rt.cm k.rt
theorem Okn.irr (h : Okn R n) (hR : okR R) {x y : Int} (e : y ≠ 0 → n.p ≠ 0) : y ≠ 0 → x * x ≠ y * y * n.r := fun y0 => by
  have p0 := e y0
  rw [h.root p0]
  exact PF.irr hR (fun z => p0 (h.zero z)) y0
theorem Okn.gd (h : Okn R n) (hR : okR R) {k : Nat} (bt : Bd k n.t) (bp : Bd k n.p) (bb : Bd k n.b) : Gd k n := ⟨by have := h.nrm.b; omega, bt, bp, bb, h.rb hR, h.r0 hR⟩
theorem Rt.okn {t p d : Int} (h : Rt R n t p d) (z : R = 0 → n.p = 0) : Okn R n := ⟨h.nrm, h.root, z⟩
theorem Rt.pz {t p d : Int} (h : Rt R n t p d) (z : p = 0) : n.p = 0 := by
  have := h.vp
  rw [z, Int.zero_mul] at this
  exact (Int.mul_eq_zero.mp this).resolve_right h.b0
theorem Okn.add (h : Okn R a) (k : Okn R b) : Rt R (addN a b) (a.t * b.b + b.t * a.b) (a.p * b.b + b.p * a.b) (a.b * b.b) := Rt.add (h.hz k) h.rt k.rt
theorem Okn.sub (h : Okn R a) (k : Okn R b) : Rt R (subN a b) (a.t * b.b - b.t * a.b) (a.p * b.b - b.p * a.b) (a.b * b.b) := Rt.sub (h.hz k) h.rt k.rt
theorem Okn.mul (h : Okn R a) (k : Okn R b) : Rt R (mulN a b) (a.t * b.t + a.p * b.p * R) (a.t * b.p + a.p * b.t) (a.b * b.b) := Rt.mul (h.hz k) h.rt k.rt
theorem Okn.addk (h : Okn R a) (k : Okn R b) : Okn R (addN a b) := (h.add k).okn fun z => (h.add k).pz (by rw [h.zero z, k.zero z]; simp)
theorem Okn.subk (h : Okn R a) (k : Okn R b) : Okn R (subN a b) := (h.sub k).okn fun z => (h.sub k).pz (by rw [h.zero z, k.zero z]; simp)
theorem Okn.mulk (h : Okn R a) (k : Okn R b) : Okn R (mulN a b) := (h.mul k).okn fun z => (h.mul k).pz (by rw [h.zero z, k.zero z]; simp)
theorem Okn.size (h : Okn R a) (k : Okn R b) (hR : okR R) (nz : ¬ (b.t = 0 ∧ b.p = 0)) : sizeN a b ≠ 0 := by
  rw [sizeN_eq (h.hz k) h.rt k.rt]
  by_cases c : b.p = 0
  · have t0 : b.t ≠ 0 := fun z => nz ⟨z, c⟩
    rw [c]
    have := Int.mul_ne_zero t0 t0
    omega
  · have := PF.irr (x := b.t) hR (fun z => c (k.zero z)) c
    omega
theorem Okn.over (h : Okn R a) (k : Okn R b) (s0 : sizeN a b ≠ 0) : Rt R (overN a b) ((a.t * b.t - a.p * b.p * R) * b.b) ((a.p * b.t - a.t * b.p) * b.b) (sizeN a b * a.b) := Rt.over (h.hz k) h.rt k.rt s0
theorem Okn.overk (h : Okn R a) (k : Okn R b) (s0 : sizeN a b ≠ 0) : Okn R (overN a b) := (h.over k s0).okn fun z => (h.over k s0).pz (by rw [h.zero z, k.zero z]; simp)
theorem Okn.mk' {t p r d : Int} (h : d ≠ 0) (hr : p ≠ 0 → r = R) (z : R = 0 → p = 0) : Okn R (mkNm t p r d) := (Rt.mk' h hr).okn fun y => (Rt.mk' (R := R) (t := t) h hr).pz (z y)
/-! the law's own sums and products -/
def lAddN (a b : Nm) (r : Int) : Nm := mkNm (a.t * b.b + b.t * a.b) (a.p * b.b + b.p * a.b) r (a.b * b.b)
def lMulN (a b : Nm) (r : Int) : Nm := mkNm (a.t * b.t + a.p * b.p * r) (a.t * b.p + a.p * b.t) r (a.b * b.b)
def lessN (b : Nm) : Nm := ⟨-b.t, -b.p, b.r, b.b⟩
theorem Okn.ladd (h : Okn R a) (k : Okn R b) : addN a b = lAddN a b R := (h.add k).uniq (Rt.mk' (h.rt.bnz k.rt) fun _ => rfl) rfl rfl
theorem Okn.lmul (h : Okn R a) (k : Okn R b) : mulN a b = lMulN a b R := (h.mul k).uniq (Rt.mk' (h.rt.bnz k.rt) fun _ => rfl) rfl rfl
theorem Okn.less (h : Okn R a) (k : Okn R b) : subN a b = lAddN a (lessN b) R := by
  have e : Rt R (lAddN a (lessN b) R) (a.t * b.b + -b.t * a.b) (a.p * b.b + -b.p * a.b) (a.b * b.b) := Rt.mk' (t := a.t * b.b + -b.t * a.b) (p := a.p * b.b + -b.p * a.b) (b := a.b * b.b) (h.rt.bnz k.rt) fun _ => rfl
  exact (h.sub k).uniq e (by grind) (by grind)
theorem Okn.back (h : Okn R a) (k : Okn R b) : addN (subN a b) b = a := by
  have b0 := k.rt.b0
  refine (Rt.add ((h.subk k).hz k) (h.sub k) k.rt).uniq h.rt ?_ ?_ <;> grind
theorem Okn.oback (h : Okn R a) (k : Okn R b) (s0 : sizeN a b ≠ 0) : lMulN (overN a b) b R = a := by
  have b0 := k.rt.b0
  rw [← (h.overk k s0).lmul k]
  have e := sizeN_eq (h.hz k) h.rt k.rt
  refine (Rt.mul ((h.overk k s0).hz k) (h.over k s0) k.rt).uniq h.rt ?_ ?_
  · rw [e]; grind
  · rw [e]; grind
theorem Okn.self (h : Okn R n) : mkNm n.t n.p n.r n.b = n := mkNm_self h.nrm
theorem Okn.comm (h : Okn R a) (k : Okn R b) : mulN a b = mulN b a := (h.mul k).uniq (k.mul h) (by grind) (by grind)
theorem Okn.dist (h : Okn R a) (k : Okn R b) (m : Okn R c) : mulN (addN a b) c = addN (mulN a c) (mulN b c) := by
  refine (Rt.mul ((h.addk k).hz m) (h.add k) m.rt).uniq (Rt.add ((h.mulk m).hz (k.mulk m)) (h.mul m) (k.mul m)) ?_ ?_ <;> grind
theorem nrm_flip {n m : Nm} (h : Nrm n) (t : m.t.natAbs = n.t.natAbs) (p : m.p.natAbs = n.p.natAbs) (r : m.r = n.r) (b : m.b = n.b) : Nrm m := ⟨by rw [b]; exact h.b, by unfold gcd3; rw [t, p, b]; exact h.g, fun z => by rw [r]; exact h.r (by omega)⟩
theorem Okn.neg (h : Okn R n) : negN n = lessN n := mkNm_self (n := lessN n) (nrm_flip h.nrm (Int.natAbs_neg _) (Int.natAbs_neg _) rfl rfl)
theorem Okn.mir (h : Okn R n) : mirN n = ⟨n.t, -n.p, n.r, n.b⟩ := mkNm_self (n := ⟨n.t, -n.p, n.r, n.b⟩) (nrm_flip h.nrm rfl (Int.natAbs_neg _) rfl rfl)
theorem Okn.mirk (h : Okn R n) : Okn R (mirN n) := by
  rw [h.mir]
  exact ⟨nrm_flip h.nrm rfl (Int.natAbs_neg _) rfl rfl, fun z => h.root (fun y => z (by show -n.p = 0; omega)), fun z => by show -n.p = 0; have := h.zero z; omega⟩
theorem Okn.mirt (h : Okn R n) {t p d : Int} (k : Rt R n t p d) : Rt R (mirN n) t (-p) d := by
  have e := h.mir
  have m := h.mirk
  refine ⟨m.nrm, k.b0, ?_, ?_, m.root⟩
  · rw [e]; exact k.vt
  · rw [e]; show -n.p * d = -p * n.b; rw [Int.neg_mul, Int.neg_mul, k.vp]
theorem Okn.mirm (h : Okn R a) (k : Okn R b) : mirN (mulN a b) = mulN (mirN a) (mirN b) := by
  refine ((h.mulk k).mirt (h.mul k)).uniq (Rt.mul (h.mirk.hz k.mirk) (h.mirt h.rt) (k.mirt k.rt)) ?_ ?_ <;> grind
/-- the norm, by the root R -/
theorem Okn.normt (h : Okn R n) {t p d : Int} (k : Rt R n t p d) : Rt 0 (normN n) (t * t - p * p * R) 0 (d * d) := by
  have b0 := h.rt.b0
  have d0 := k.b0
  have e : Rt 0 (normN n) (n.t * n.t - n.p * n.p * n.r) 0 (n.b * n.b) := Rt.mk' (Int.mul_ne_zero b0 b0) fun z => absurd rfl z
  have r : n.p * n.r = n.p * R := by
    by_cases c : n.p = 0
    · rw [c]; simp
    · rw [h.root c]
  obtain ⟨q1, q2, q3, q4, q5⟩ := e
  have v1 := k.vt
  have v2 := k.vp
  refine ⟨q1, Int.mul_ne_zero d0 d0, ?_, ?_, q5⟩
  · refine Int.eq_of_mul_eq_mul_right (Int.mul_ne_zero b0 b0) ?_
    grind
  · have z : (normN n).p = 0 := by
      rw [Int.zero_mul] at q4
      exact (Int.mul_eq_zero.mp q4).resolve_right (Int.mul_ne_zero b0 b0)
    rw [z]; simp
theorem Okn.normk (h : Okn R n) : Okn 0 (normN n) := (h.normt h.rt).okn fun _ => (h.normt h.rt).pz rfl
theorem Okn.normm (h : Okn R a) (k : Okn R b) : normN (mulN a b) = mulN (normN a) (normN b) := by
  refine ((h.mulk k).normt (h.mul k)).uniq (Rt.mul (h.normk.hz k.normk) (h.normt h.rt) (k.normt k.rt)) ?_ ?_ <;> grind
/-! floors -/
theorem sgn_le {v : Int} : v ≤ 0 → sgn v ≤ 0 := fun h => by unfold sgn b2; rw [decide_eq_false (by omega)]; by_cases k : v < 0 <;> simp [k]
theorem sgn_ge {v : Int} : 0 ≤ v → 0 ≤ sgn v := fun h => by unfold sgn b2; rw [decide_eq_false (show ¬ v < 0 by omega)]; by_cases k : 0 < v <;> simp [k]
theorem sgn_p {v : Int} (h : 0 < v) : sgn v = 1 := by unfold sgn b2; rw [decide_eq_true h, decide_eq_false (by omega)]; rfl
theorem sgn_n {v : Int} (h : v < 0) : sgn v = -1 := by unfold sgn b2; rw [decide_eq_true h, decide_eq_false (by omega)]; rfl
theorem fdiv_bds (x : Int) {b : Int} (h : 0 < b) : x.fdiv b * b ≤ x ∧ x < x.fdiv b * b + b := by
  rw [Int.fdiv_eq_ediv_of_nonneg x (by omega)]
  have h1 := Int.emod_nonneg x (show b ≠ 0 by omega)
  have h2 := Int.emod_lt_of_pos x h
  have h3 := Int.mul_ediv_add_emod x b
  rw [Int.mul_comm] at h3
  omega
theorem Okn.floor (h : Okn R n) (hR : okR R) : 0 ≤ sgnSum (n.t - floorN n.t n.p n.r n.b * n.b) n.p n.r ∧ sgnSum (n.t - floorN n.t n.p n.r n.b * n.b - n.b) n.p n.r < 0 := by
  have hb := h.nrm.b
  unfold floorN
  by_cases c : n.p = 0
  · have d := fdiv_bds n.t hb
    rw [if_pos c]
    unfold sgnSum
    rw [if_pos c, if_pos c]
    exact ⟨sgn_ge (by omega), by rw [sgn_n (by omega)]; decide⟩
  · rw [if_neg c]
    have hr := h.root c
    have r0 : R ≠ 0 := fun z => c (h.zero z)
    have rp : 0 < R := by have := (okR_nn hR).1; omega
    rw [hr]
    have pp : 0 < n.p * n.p := by
      rcases Int.lt_or_gt_of_ne c with k | k
      · exact Int.mul_pos_of_neg_of_neg k k
      · exact Int.mul_pos k k
    have pr : 0 < n.p * n.p * R := Int.mul_pos pp rp
    obtain ⟨i1, i2⟩ := isq_ok (n.p * n.p * R).toNat
    have ne := PF.irr (x := (isq (n.p * n.p * R).toNat : Int)) hR r0 c
    generalize isq (n.p * n.p * R).toNat = q at *
    have j1 : (q : Int) * q < n.p * n.p * R := by
      have : ((q * q : Nat) : Int) ≤ n.p * n.p * R := by omega
      rw [Int.natCast_mul] at this
      omega
    have j2 : n.p * n.p * R < ((q : Int) + 1) * (q + 1) := by
      have : n.p * n.p * R < (((q + 1) * (q + 1) : Nat) : Int) := by omega
      rw [Int.natCast_mul] at this
      simpa using this
    generalize hA : n.p * n.p * R = A at *
    have hq : (0 : Int) ≤ q := Int.natCast_nonneg q
    have sqle : ∀ u v : Int, 0 ≤ u → u ≤ v → u * u ≤ v * v := fun u v h1 h2 => Int.mul_le_mul h2 h2 h1 (by omega)
    unfold sgnSum
    rw [if_neg c, if_neg c, hA]
    rcases Int.lt_or_gt_of_ne c with k | k
    · rw [if_neg (show ¬ 0 < n.p by omega), sgn_n k]
      have d := fdiv_bds (n.t + (-(q : Int) - 1)) hb
      generalize (n.t + (-(q : Int) - 1)).fdiv n.b * n.b = F at *
      constructor
      · have u1 : (q : Int) + 1 ≤ n.t - F := by omega
        have u2 := sqle _ _ (by omega) u1
        rw [sgn_p (v := n.t - F) (by omega), if_neg (by decide), sgn_p (by omega)]; decide
      · by_cases z : n.t - F - n.b ≤ 0
        · have := sgn_le z
          rw [if_pos (by omega)]; decide
        · have u2 := sqle (n.t - F - n.b) q (by omega) (by omega)
          rw [sgn_p (v := n.t - F - n.b) (by omega), if_neg (by decide), sgn_n (by omega)]; decide
    · rw [if_pos k, sgn_p k]
      have d := fdiv_bds (n.t + q) hb
      generalize (n.t + (q : Int)).fdiv n.b * n.b = F at *
      constructor
      · by_cases z : 0 ≤ n.t - F
        · have := sgn_ge z
          rw [if_pos (by omega)]; decide
        · have u2 := sqle (-(n.t - F)) q (by omega) (by omega)
          rw [Int.neg_mul_neg] at u2
          rw [sgn_n (v := n.t - F) (by omega), if_neg (by decide), sgn_n (by omega)]; decide
      · have u2 := sqle (q + 1) (-(n.t - F - n.b)) (by omega) (by omega)
        rw [Int.neg_mul_neg] at u2
        rw [sgn_n (v := n.t - F - n.b) (by omega), if_neg (by decide), sgn_p (by omega)]; decide
end
/-! bits of a least form -/
theorem fdiv_abs_le (x : Int) {s : Int} (h : s ∣ x) : (x.fdiv s).natAbs ≤ x.natAbs := by
  have e := fdiv_mul h
  by_cases c : x = 0
  · rw [c, Int.zero_fdiv]; exact Nat.le_refl _
  · have e2 : (x.fdiv s).natAbs * s.natAbs = x.natAbs := by rw [← Int.natAbs_mul, e]
    have : s.natAbs ≠ 0 := fun z => by rw [z] at e2; omega
    have h3 := Nat.mul_le_mul_left (x.fdiv s).natAbs (show 1 ≤ s.natAbs by omega)
    omega
theorem mk_bd {t p r b : Int} {k : Nat} (bt : Bd k t) (bp : Bd k p) (bb : Bd k b) : Bd k (mkNm t p r b).t ∧ Bd k (mkNm t p r b).p ∧ Bd k (mkNm t p r b).b := by
  obtain ⟨h1, h2, h3⟩ := share_dvd (t := t) (p := p) (b := b)
  exact ⟨bt.le (fdiv_abs_le t h1), bp.le (fdiv_abs_le p h2), bb.le (fdiv_abs_le b h3)⟩
/-- three integers of fewer than k bits -/
def B3 (k : Nat) (n : Nm) : Prop := Bd k n.t ∧ Bd k n.p ∧ Bd k n.b
theorem B3.mono {k m : Nat} {n : Nm} (h : B3 k n) (l : k ≤ m) : B3 m n := ⟨h.1.mono l, h.2.1.mono l, h.2.2.mono l⟩
section
variable {a b : Nm} {k : Nat}
theorem cR_bd {a b : Nm} (h : Bd 10 a.r) (g : Bd 10 b.r) : Bd 10 (cRoot a b) := by unfold cRoot; split <;> assumption
theorem B3.add (h : B3 k a) (g : B3 k b) : B3 (2 * k + 12) (addN a b) := mk_bd
  ((Bd.add (n := k + k) (m := k + k + 1) (h.1.mul g.2.2) (g.1.mul h.2.2) rfl).mono (by omega)) ((Bd.add (n := k + k) (m := k + k + 1) (h.2.1.mul g.2.2) (g.2.1.mul h.2.2) rfl).mono (by omega)) ((h.2.2.mul g.2.2).mono (by omega))
theorem B3.sub (h : B3 k a) (g : B3 k b) : B3 (2 * k + 12) (subN a b) := mk_bd
  ((Bd.sub (n := k + k) (m := k + k + 1) (h.1.mul g.2.2) (g.1.mul h.2.2) rfl).mono (by omega)) ((Bd.sub (n := k + k) (m := k + k + 1) (h.2.1.mul g.2.2) (g.2.1.mul h.2.2) rfl).mono (by omega)) ((h.2.2.mul g.2.2).mono (by omega))
theorem B3.mul (h : B3 k a) (g : B3 k b) (r1 : Bd 10 a.r) (r2 : Bd 10 b.r) : B3 (2 * k + 12) (mulN a b) := mk_bd
  ((Bd.add (n := k + k + 10) (m := k + k + 11) ((h.1.mul g.1).mono (by omega)) ((h.2.1.mul g.2.1).mul (cR_bd r1 r2)) rfl).mono (by omega)) ((Bd.add (n := k + k) (m := k + k + 1) (h.1.mul g.2.1) (h.2.1.mul g.1) rfl).mono (by omega)) ((h.2.2.mul g.2.2).mono (by omega))
theorem B3.over (h : B3 k a) (g : B3 k b) (r1 : Bd 10 a.r) (r2 : Bd 10 b.r) : B3 (3 * k + 12) (overN a b) := mk_bd
  (((Bd.sub (n := k + k + 10) (m := k + k + 11) ((h.1.mul g.1).mono (by omega)) ((h.2.1.mul g.2.1).mul (cR_bd r1 r2)) rfl).mul g.2.2).mono (by omega))
  (((Bd.sub (n := k + k) (m := k + k + 1) (h.2.1.mul g.1) (h.1.mul g.2.1) rfl).mul g.2.2).mono (by omega))
  (((Bd.sub (n := k + k + 10) (m := k + k + 11) ((g.1.mul g.1).mono (by omega)) ((g.2.1.mul g.2.1).mul (cR_bd r1 r2)) rfl).mul h.2.2).mono (by omega))
theorem B3.mir (h : B3 k a) : B3 k (mirN a) := mk_bd h.1 h.2.1.neg h.2.2
theorem B3.norm (h : B3 k a) (r : Bd 10 a.r) : B3 (2 * k + 12) (normN a) := mk_bd ((Bd.sub (n := k + k + 10) (m := k + k + 11) ((h.1.mul h.1).mono (by omega)) ((h.2.1.mul h.2.1).mul r) rfl).mono (by omega)) (bd_sm (by decide) (by omega)) ((h.2.2.mul h.2.2).mono (by omega))
end
end PF

set_option Elab.async false
set_option linter.all false
set_option maxRecDepth 100000
set_option maxHeartbeats 4000000
set_option exponentiation.threshold 20000
namespace PF
open PySem PySem.Spec PyProof.Rows L2 SlX
/-- the class x at C, called with n values and these keywords -/
structure GMK (P : Program) (w : World) (K : PySem.W.Frag) (mg : Str → Option Value) (base : Heap) (x : Str) (C : Addr) (k n : Nat) (ks : List Str) (sp : Sp) : Prop where
  ex : ∃ f fd ps g, mg x = some (.ref C) ∧ Mk K C f ∧ KBn K fd ps (n + 1) ks g (fun vs zs => vs ++ zs) ∧ FnOk P w K mg base CX0 k f fd ps sp
theorem pe_mk {X : Cx} {k n : Nat} {ks : List Str} {sp : Sp} {x : Str} {C : Addr} {p pos : Pos} {e : Expr} {es : List Expr} {kws : List Keyword} {t tk : TA} (G : GMK X.prog X.w X.K X.mg X.base x C k n ks sp) (hr : Room (k + 1) X.A) (ha : PA X (e :: es) t) (hkw : PK X kws tk) (gl : Gl X x := by rfl)
    (hall : (backToKw pos (keywordEach kws X.env)).all (·.1.isSome) = true := by rfl) (hks : (backToKw pos (keywordEach kws X.env)).filterMap (·.1) = ks := by rfl)
    (hdb : (x == ("__debug__" : Str)) = false := by decide) (he : starEach (e :: es) X.env = (false, eval e X.env) :: starEach es X.env := by rfl)
    (hpl : ((backTo pos (starEach (e :: es) X.env)).any (·.1) || (backToKw pos (keywordEach kws X.env)).any (·.1.isNone)) = false := by rfl) : PE X (.Call (.Name x p) (e :: es) kws pos) (tMakeN C n ks.length sp (fun vs zs => vs ++ zs) E0 t tk) := by
  obtain ⟨f, fd, ps, g, h1, h2, h3, h4⟩ := G.ex
  exact pe_makeN h2 h4 hr gl h1 h3 pass0 ha hkw hall hks hdb he hpl
/-- a tuple of four integers -/
def T4 (H : Hp) (v : V) (n : Nm) : Prop := ∃ a, v = .ref a ∧ H a = some (.tup [.int n.t, .int n.p, .int n.r, .int n.b])
theorem T4.same {H H' : Hp} {v : V} {n : Nm} (h : T4 H v n) (s : Same H H') : T4 H' v n := by
  obtain ⟨a, rfl, h⟩ := h
  exact ⟨a, rfl, s _ _ h⟩
def spLSign : Sp := fun vs H Q _ => ∃ (a : Addr) (x y r : Int), vs = [.ref a, .int r] ∧ H a = some (.tup [.int x, .int y]) ∧ Bd 4000 x ∧ Bd 4000 y ∧ Bd 10 r ∧ (y ≠ 0 → x * x ≠ y * y * r) ∧ Q (.int (sgnSum x y r)) H
def spLCommon : Sp := fun vs H Q _ => ∃ a b : Int, vs = [.int a, .int b] ∧ 0 ≤ a ∧ 0 ≤ b ∧ Bd 4400 a ∧ Bd 4400 b ∧ Q (.int ((Nat.gcd a.toNat b.toNat : Nat) : Int)) H
def spLLeast : Sp := fun vs H Q _ => ∃ t p r b : Int, vs = [.int t, .int p, .int r, .int b] ∧ b ≠ 0 ∧ Bd 4400 t ∧ Bd 4400 p ∧ Bd 4400 b ∧ ∀ v H', Same H H' → T4 H' v (mkNm t p r b) → Q v H'
def spParts : Sp := fun vs H Q _ => ∃ (q : Addr) (r : Int) (c : Nat), vs = [.ref q, .int r] ∧ Dice q H c ∧ c + 10 < 2 ^ 64 ∧ ∀ v H' t p b, SameB q H H' → Dice q H' (c + 10) → T4 H' v ⟨t, p, r, b⟩ → b ≠ 0 → Bd 101 t → Bd 101 p → Bd 101 b → (r = 0 → p = 0) → Q v H'
def spMade (CN : Addr) : Sp := fun vs H Q _ => ∃ x n, vs = [x] ∧ T4 H x n ∧ n.b ≠ 0 ∧ okRoot n.r n.p ∧ Bd 9000 n.b ∧ ∀ v H', Same H H' → At4 CN H' v (mkNm n.t n.p n.r n.b) → Q v H'
def spLForm (CN : Addr) : Sp := fun vs H Q _ => ∃ x n, vs = [x] ∧ At4 CN H x n ∧ ∀ v H', Same H H' → T4 H' v n → Q v H'
def spLAdd (g : Nm → Nm → Int → Nm) : Sp := fun vs H Q _ => ∃ x y r a b, vs = [x, y, .int r] ∧ T4 H x a ∧ T4 H y b ∧ Bd 1000 a.t ∧ Bd 1000 a.p ∧ Bd 1000 a.b ∧ Bd 1000 b.t ∧ Bd 1000 b.p ∧ Bd 1000 b.b ∧ a.b ≠ 0 ∧ b.b ≠ 0 ∧ Bd 10 r ∧ ∀ v H', Same H H' → T4 H' v (g a b r) → Q v H'
theorem vbl (a b : Bool) : decide (V.bl a = V.bl b) = (a == b) := by cases a <;> cases b <;> rfl
/-- Euclid's steps: after i of them -/
def Eu (M i x y : Nat) : Prop := ∃ k, (i = 2 * k ∧ y * 2 ^ k < M) ∨ (i = 2 * k + 1 ∧ y < x ∧ x * 2 ^ k < M)
theorem Eu.step {M i x y : Nat} (h : Eu M i x y) (y0 : y ≠ 0) : Eu M (i + 1) y (x % y) := by
  have l := Nat.mod_lt x (Nat.pos_of_ne_zero y0)
  obtain ⟨k, ⟨rfl, h⟩ | ⟨rfl, h1, h2⟩⟩ := h
  · exact ⟨k, .inr ⟨rfl, l, h⟩⟩
  · refine ⟨k + 1, .inl ⟨rfl, Nat.lt_of_le_of_lt ?_ h2⟩⟩
    have e : 2 * (x % y) ≤ x := by
      have h3 := Nat.div_add_mod x y
      have h4 : 1 ≤ x / y := (Nat.one_le_div_iff (Nat.pos_of_ne_zero y0)).mpr (Nat.le_of_lt h1)
      have h5 := Nat.mul_le_mul_left y h4
      omega
    rw [Nat.pow_succ, Nat.mul_comm (2 ^ k) 2, ← Nat.mul_assoc, Nat.mul_comm _ 2]
    exact Nat.mul_le_mul_right _ e
theorem Eu.fin {M a x y : Nat} (hM : M ≤ 2 ^ a) (h : Eu M (2 * a) x y) : y = 0 := by
  obtain ⟨k, ⟨e, h⟩ | ⟨e, _⟩⟩ := h
  · have : k = a := by omega
    subst this
    refine Classical.byContradiction fun c => ?_
    have := Nat.mul_le_mul_right (2 ^ k) (Nat.one_le_iff_ne_zero.mpr c)
    omega
  · omega
theorem sgn_pos {v : Int} (h : 0 < v) : sgn v = 1 := by unfold sgn b2; rw [decide_eq_true h, decide_eq_false (by omega)]; rfl
theorem sgn_neg {v : Int} (h : v < 0) : sgn v = -1 := by unfold sgn b2; rw [decide_eq_true h, decide_eq_false (by omega)]; rfl
theorem sgn_zero : sgn 0 = 0 := rfl
theorem vint (i j : Int) : decide (V.int i = V.int j) = decide (i = j) := by
  by_cases c : i = j
  · rw [c, decide_eq_true rfl, decide_eq_true rfl]
  · rw [decide_eq_false c, decide_eq_false fun z => c (V.int.inj z)]
section
variable {P : Program} {w : World} {K : PySem.W.Frag} {mg : Str → Option Value} {base : Heap} {f CN CF : Addr} {fd : FuncData}
theorem sc__law_sign : FnScope ["_law_pair", "_law_root", "_law_x", "_law_y", "_law_both", "_law_greater"] ["_law_pair", "_law_root"] (defScope (topS 34)) := ⟨rfl, rfl, rfl, by decide +kernel, rfl, by decide +kernel, by decide +kernel⟩
theorem ok_lsign (F : Fun K "_law_sign" "_law_sign" (topS 34) f fd) (fr : Free mg) : FnOk P w K mg base CX0 2 f fd ["_law_pair", "_law_root"] spLSign := by
  refine F.ok sc__law_sign (fun vs H Q E ⟨_, _, _, _, e, _⟩ => by rw [e]; rfl) (fun cdv A outer s H vs Q E hr h => ⟨_, (pss_cons (ps_asg (pv 0) (pg_tup (by rfl) (pgs_cons (pg_name (i := 2) sc__law_sign.nd rfl (by first | exact Or.inl rfl | exact Or.inr rfl)) (pgs_cons (pg_name (i := 3) sc__law_sign.nd rfl (by first | exact Or.inl rfl | exact Or.inr rfl)) pgs_nil))))
  (pss_cons (ps_if (PW.pt (pw_or (pt_cmpR op_eq (pv 3) pe_int (nomark _)) (pw_or (pt_cmpR op_eq (pv 2) pe_int (nomark _)) (pw_or1 (pt_cmpR op_eq (pe_cmpR op_gt (pv 2) pe_int (nomark _)) (pe_cmpR op_gt (pv 3) pe_int (nomark _)) (nomark _)))))) (pss_cons (ps_set (i := 4) sc__law_sign.nd rfl (by first | exact Or.inl rfl | exact Or.inr rfl) (pe_ifExp (pt_cmpR op_ne (pv 2) pe_int (nomark _)) (pv 2) (pv 3)))
  (pss_one (ps_ret (pe_op op_sub (pe_callTy call_int1 (by rfl) fr.b_int (by decide +kernel) (pa_cons (pe_cmpR op_gt (pv 4) pe_int (nomark _)) pa_nil)) (pe_callTy call_int1 (by rfl) fr.b_int (by decide +kernel) (pa_cons (pe_cmpR op_lt (pv 4) pe_int (nomark _)) pa_nil)))))) pss_nil)
  (pss_cons (ps_set (i := 5) sc__law_sign.nd rfl (by first | exact Or.inl rfl | exact Or.inr rfl) (pe_ifExp (pt_cmpR op_gt (pe_op op_mulX (pv 2) (pv 2)) (pe_op op_mulX (pe_op op_mulX (pv 3) (pv 3)) (pv 1)) (nomark _)) (pv 2) (pv 3)))
  (pss_one (ps_ret (pe_ifExp (pt_cmpR op_gt (pv 5) pe_int (nomark _)) pe_int (pe_un un_neg pe_int))))))), ?_⟩)
  obtain ⟨a, x, y, r, rfl, ha, bx, by_, br, ir, q⟩ := h
  have fin : ∀ (k : Int) (σ : L2.St), σ[4]? = some (some (.int k)) → sgn k = sgnSum x y r → tRet (tOp (rI0 fun i j => V.int (i - j))
      (tCB (fun xs H Q => (∃ i, xs = [V.int i] ∧ Q (V.int i) H) ∨ ∃ k, xs = [V.bl k] ∧ Q (V.int (if k = true then 1 else 0)) H) (tCons (tOp (rI0 fun i j => V.bl (decide (j < i))) (tVar 4) (tC (V.int 0))) tNil))
      (tCB (fun xs H Q => (∃ i, xs = [V.int i] ∧ Q (V.int i) H) ∨ ∃ k, xs = [V.bl k] ∧ Q (V.int (if k = true then 1 else 0)) H) (tCons (tOp (rI0 fun i j => V.bl (decide (i < j))) (tVar 4) (tC (V.int 0))) tNil)))
      { nx := fun x H' => Q V.non H', rt := Q } σ H := fun k σ hk e => by
    refine ⟨_, hk, _, _, rfl, rfl, .inr ⟨_, rfl, _, hk, _, _, rfl, rfl, .inr ⟨_, rfl, _, _, rfl, rfl, ?_⟩⟩⟩
    rw [← e] at q
    exact q
  refine ⟨_, rfl, a, _, rfl, .of ha, rfl, _, _, rfl, _, _, rfl, rfl, ?_⟩
  refine ⟨_, rfl, rfl, _, rfl, ite_dec (fun c => ?_) fun c => ?_⟩
  · obtain rfl : y = 0 := V.int.inj c
    refine ⟨_, rfl, rfl, _, rfl, ite_ndec (fun c2 => ⟨_, rfl, fin x _ rfl ?_⟩) fun c2 => ⟨_, rfl, fin 0 _ rfl ?_⟩⟩
    · unfold sgnSum; rw [if_pos rfl]
    · obtain rfl : x = 0 := V.int.inj c2
      rfl
  replace c : y ≠ 0 := fun z => c (congrArg V.int z)
  refine ⟨_, rfl, rfl, _, rfl, ite_dec (fun c2 => ?_) fun c2 => ?_⟩
  · obtain rfl : x = 0 := V.int.inj c2
    refine ⟨_, rfl, rfl, _, rfl, ⟨_, rfl, fin y _ rfl ?_⟩⟩
    unfold sgnSum; rw [if_neg c, if_pos (by rw [sgn_zero, Int.zero_mul]; exact Int.le_refl 0)]
  replace c2 : x ≠ 0 := fun z => c2 (congrArg V.int z)
  have yes : decide (V.int x = V.int 0) = false := by rw [vint, decide_eq_false c2]
  have ss : sgnSum x y r = if 0 ≤ sgn x * sgn y then sgn y else sgn x * sgn (x * x - y * y * r) := by unfold sgnSum; rw [if_neg c]
  have same : sgn x = sgnSum x y r → tSeq (tAsg (tIf (tTest (tOp rNe (tVar 2) (tC (V.int 0)))) (tVar 2) (tVar 3)) (gName 4)) (tRet (tOp (rI0 fun i j => V.int (i - j))
      (tCB (fun xs H Q => (∃ i, xs = [V.int i] ∧ Q (V.int i) H) ∨ ∃ k, xs = [V.bl k] ∧ Q (V.int (if k = true then 1 else 0)) H) (tCons (tOp (rI0 fun i j => V.bl (decide (j < i))) (tVar 4) (tC (V.int 0))) tNil))
      (tCB (fun xs H Q => (∃ i, xs = [V.int i] ∧ Q (V.int i) H) ∨ ∃ k, xs = [V.bl k] ∧ Q (V.int (if k = true then 1 else 0)) H) (tCons (tOp (rI0 fun i j => V.bl (decide (i < j))) (tVar 4) (tC (V.int 0))) tNil))))
      { nx := fun x H' => Q V.non H', rt := Q } [some (.ref a), some (.int r), some (.int x), some (.int y), none, none] H := fun e => by
    refine ⟨_, rfl, rfl, _, rfl, ?_⟩
    rw [yes]
    exact ⟨_, rfl, fin x _ rfl e⟩
  have diff : ∀ g : Int, g ≠ 0 → sgnSum x y r = (if 0 < g then 1 else -1) → tRet (tIf (tTest (tOp (rI0 fun i j => V.bl (decide (j < i))) (tVar 5) (tC (V.int 0)))) (tC (V.int 1)) (tUn (rU fun i => V.int (-i)) (tC (V.int 1))))
      { nx := fun x H' => Q V.non H', rt := Q } [some (.ref a), some (.int r), some (.int x), some (.int y), none, some (.int g)] H := fun g g0 e => by
    refine ⟨_, rfl, _, _, rfl, rfl, _, rfl, ite_dec (fun k => ?_) fun k => ?_⟩
    · rw [e, if_pos k] at q; exact q
    · rw [e, if_neg k] at q; exact ⟨_, rfl, q⟩
  refine ⟨_, rfl, _, _, rfl, rfl, _, rfl, _, _, rfl, rfl, rfl, _, rfl, ?_⟩
  dsimp only
  rw [vbl]
  rcases Int.lt_or_gt_of_ne c2 with hx | hx <;> rcases Int.lt_or_gt_of_ne c with hy | hy
  · rw [decide_eq_false (show ¬ 0 < x by omega), decide_eq_false (show ¬ 0 < y by omega)]
    refine same ?_
    rw [ss, sgn_neg hx, sgn_neg hy]; rfl
  rotate_right
  · rw [decide_eq_true hx, decide_eq_true hy]
    refine same ?_
    rw [ss, sgn_pos hx, sgn_pos hy]; rfl
  · rw [decide_eq_false (show ¬ 0 < x by omega), decide_eq_true hy]
    refine ⟨_, rfl, _, rfl, _, _, rfl, rfl, bx.mulx bx (by decide), _, rfl, _, rfl, _, _, rfl, rfl, by_.mulx by_ (by decide), _, rfl, _, _, rfl, rfl, (by_.mul by_).mulx br (by decide), _, _, rfl, rfl, _, rfl, ite_dec (fun k => ⟨_, rfl, diff x c2 ?_⟩) fun k => ⟨_, rfl, diff y c ?_⟩⟩
    · rw [ss, sgn_neg hx, sgn_pos hy, if_neg (by decide), sgn_pos (by omega), if_neg (by omega)]; rfl
    · have := ir c
      rw [ss, sgn_neg hx, sgn_pos hy, if_neg (by decide), sgn_neg (by omega), if_pos hy]; rfl
  · rw [decide_eq_true hx, decide_eq_false (show ¬ 0 < y by omega)]
    refine ⟨_, rfl, _, rfl, _, _, rfl, rfl, bx.mulx bx (by decide), _, rfl, _, rfl, _, _, rfl, rfl, by_.mulx by_ (by decide), _, rfl, _, _, rfl, rfl, (by_.mul by_).mulx br (by decide), _, _, rfl, rfl, _, rfl, ite_dec (fun k => ⟨_, rfl, diff x c2 ?_⟩) fun k => ⟨_, rfl, diff y c ?_⟩⟩
    · rw [ss, sgn_pos hx, sgn_neg hy, if_neg (by decide), sgn_pos (by omega), if_pos hx]; rfl
    · have := ir c
      rw [ss, sgn_pos hx, sgn_neg hy, if_neg (by decide), sgn_neg (by omega), if_neg (by omega)]; rfl
theorem sc__law_common : FnScope ["_law_one", "_law_other", "_law_turn"] ["_law_one", "_law_other"] (defScope (topS 35)) := ⟨rfl, rfl, rfl, by decide +kernel, rfl, by decide +kernel, by decide +kernel⟩
theorem ok_lcommon (F : Fun K "_law_common" "_law_common" (topS 35) f fd) (fr : Free mg) : FnOk P w K mg base CX0 2 f fd ["_law_one", "_law_other"] spLCommon := by
  refine F.ok sc__law_common (fun vs H Q E ⟨_, _, e, _⟩ => by rw [e]; rfl) (fun cdv A outer s H vs Q E hr h => ⟨_, (pss_cons (ps_for PassesOwn.never rfl (pi_range1 (by rfl) fr.b_range (pa_cons pe_int pa_nil)) (pg_name (i := 2) sc__law_common.nd rfl (by first | exact Or.inl rfl | exact Or.inr rfl)) (pss_cons (ps_if (pt_cmpR op_eq (pv 1) pe_int (nomark _)) (pss_one ps_break) pss_nil)
  (pss_one (ps_par (i := 0) (j := 1) (by rfl) sc__law_common.nd rfl rfl (by decide) rfl rfl (pa_cons (pv 1) (pa_cons (pe_op op_modN (pe_callTy call_int1 (by rfl) fr.b_int (by decide +kernel) (pa_cons (pv 0) pa_nil)) (pv 1)) pa_nil)) (by rfl)))))
  (pss_one (ps_ret (pv 0)))), ?_⟩)
  obtain ⟨a, b, rfl, ha, hb, ba, bb, q⟩ := h
  refine ⟨9000, rfl, by decide, by decide, ?_⟩
  have inv : ∀ x y : Int, 0 ≤ x → 0 ≤ y → y ≠ 0 → Nat.gcd y.toNat (x.fmod y).toNat = Nat.gcd x.toNat y.toNat ∧ (x.fmod y).toNat = x.toNat % y.toNat ∧ 0 ≤ x.fmod y := fun x y hx hy c => by
    have e : x.fmod y = x % y := Int.fmod_eq_emod_of_nonneg x hy
    have h1 : 0 ≤ x % y := Int.emod_nonneg x c
    have h2 : (x % y).toNat = x.toNat % y.toNat := Int.toNat_emod hx hy
    rw [e, h2]
    refine ⟨?_, rfl, h1⟩
    rw [Nat.gcd_comm x.toNat y.toNat, Nat.gcd_rec y.toNat x.toNat, Nat.gcd_comm]
  refine for_range (lo := 0) (n := 9000) (fun i σ H' => ∃ (x y : Int) (z : Option V), σ = [some (.int x), some (.int y), z] ∧ 0 ≤ x ∧ 0 ≤ y ∧ Nat.gcd x.toNat y.toNat = Nat.gcd a.toNat b.toNat ∧ Eu (2 ^ 4400) i x.toNat y.toNat ∧ H' = H) ?_ ?_ ?_
  · refine ⟨a, b, none, rfl, ha, hb, rfl, ⟨0, .inl ⟨rfl, ?_⟩⟩, rfl⟩
    unfold Bd at bb
    rw [Nat.pow_zero, Nat.mul_one]
    exact Nat.lt_of_le_of_lt (by omega) bb
  · rintro i _ _ hi ⟨x, y, z, rfl, hx, hy, hg, he, rfl⟩
    refine ⟨_, rfl, rfl, _, rfl, ite_dec (fun c => ?_) fun c => ?_⟩
    · obtain rfl : y = 0 := V.int.inj c
      refine ⟨_, rfl, ?_⟩
      simp only [Int.toNat_zero, Nat.gcd_zero_right] at hg
      rw [show (x : Int) = ((Nat.gcd a.toNat b.toNat : Nat) : Int) by omega]
      exact q
    · replace c : y ≠ 0 := fun z => c (congrArg V.int z)
      obtain ⟨k1, k2, k3⟩ := inv x y hx hy c
      refine ⟨_, rfl, _, rfl, .inl ⟨_, rfl, _, rfl, _, _, rfl, rfl, c, _, _, rfl, y, x.fmod y, _, rfl, hy, k3, k1.trans hg, ?_, rfl⟩⟩
      rw [k2]
      exact he.step (by omega)
  · rintro _ _ ⟨x, y, z, rfl, hx, hy, hg, he, rfl⟩
    have y0 := Eu.fin (a := 4500) (Nat.pow_le_pow_right (by decide) (by decide)) he
    rw [y0, Nat.gcd_zero_right] at hg
    refine ⟨_, rfl, ?_⟩
    rw [show (x : Int) = ((Nat.gcd a.toNat b.toNat : Nat) : Int) by omega]
    exact q
theorem sc__law_least : FnScope ["_law_top", "_law_part", "_law_root", "_law_bottom", "_law_common_here"] ["_law_top", "_law_part", "_law_root", "_law_bottom"] (defScope (topS 36)) := ⟨rfl, rfl, rfl, by decide +kernel, rfl, by decide +kernel, by decide +kernel⟩
theorem ok_lleast (F : Fun K "_law_least" "_law_least" (topS 36) f fd) (fr : Free mg) (G__law_common : GD P w K mg base "_law_common" 2 spLCommon) : FnOk P w K mg base CX0 3 f fd ["_law_top", "_law_part", "_law_root", "_law_bottom"] spLLeast := by
  refine F.ok sc__law_least (fun vs H Q E ⟨_, _, _, _, e, _⟩ => by rw [e]; rfl) (fun cdv A outer s H vs Q E hr h => ⟨_, (pss_cons (ps_set (i := 4) sc__law_least.nd rfl (by first | exact Or.inl rfl | exact Or.inr rfl) (pe_c1 G__law_common (hr.mono (by decide)) (pa_cons (pe_c1 G__law_common (hr.mono (by decide)) (pa_cons (pe_callB call_abs (by rfl) fr.b_abs (by decide +kernel) (pa_cons (pv 0) pa_nil)) (pa_cons (pe_callB call_abs (by rfl) fr.b_abs (by decide +kernel) (pa_cons (pv 1) pa_nil)) pa_nil))) (pa_cons (pe_callB call_abs (by rfl) fr.b_abs (by decide +kernel) (pa_cons (pv 3) pa_nil)) pa_nil))))
  (pss_cons (ps_if (pt_cmpR op_lt (pv 3) pe_int (nomark _)) (pss_one (ps_set (i := 4) sc__law_least.nd rfl (by first | exact Or.inl rfl | exact Or.inr rfl) (pe_un un_neg (pv 4)))) pss_nil)
  (pss_one (ps_ret (pe_tup (pa_cons (pe_op op_fdivZ (pv 0) (pv 4)) (pa_cons (pe_op op_fdivZ (pv 1) (pv 4)) (pa_cons (pe_ifExp (pt_cmpR op_ne (pv 1) pe_int (nomark _)) (pv 2) pe_int) (pa_cons (pe_op op_fdivZ (pv 3) (pv 4)) pa_nil))))))))), ?_⟩)
  obtain ⟨t, p, r, b, rfl, b0, bt, bp, bb, q⟩ := h
  have ab : ∀ x : Int, (if x < 0 then -x else x).toNat = x.natAbs := fun x => by split <;> omega
  have nn : ∀ x : Int, 0 ≤ (if x < 0 then -x else x) := fun x => by split <;> omega
  have ba : ∀ x : Int, Bd 4400 x → Bd 4400 (if x < 0 then -x else x) := fun x h => h.le (by split <;> omega)
  have bg : Bd 4400 ((Nat.gcd t.natAbs p.natAbs : Nat) : Int) := by
    by_cases z : t = 0
    · subst z; rw [Int.natAbs_zero, Nat.gcd_zero_left]; exact bp.le (by omega)
    · exact bt.le (by
        rw [Int.natAbs_natCast]; exact Nat.le_of_dvd (by omega) (Nat.gcd_dvd_left _ _))
  refine ⟨_, rfl, _, rfl, _, rfl, _, rfl, _, _, rfl, nn t, nn p, ba t bt, ba p bp, _, rfl, _, rfl, _, _, rfl, Int.natCast_nonneg _, nn b, ?_⟩
  rw [ab, ab, ab, Int.toNat_natCast]
  refine ⟨bg, ba b bb, ?_⟩
  have dv : ∀ x sh : Int, sh = share t p b → CDvz x sh := fun x sh e => by rw [e]; exact (share_bd b0 (bb.mono (by decide : 4400 ≤ 9000))).dvz (share_ne b0) (Nat.le_refl _)
  have fin : ∀ sh : Int, sh = share t p b → tRet (tTup (tCons (tOp (rI CDvz fun i j => V.int (i.fdiv j)) (tVar 0) (tVar 4)) (tCons (tOp (rI CDvz fun i j => V.int (i.fdiv j)) (tVar 1) (tVar 4)) (tCons (tIf (tTest (tOp rNe (tVar 1) (tC (V.int 0)))) (tVar 2) (tC (V.int 0))) (tCons (tOp (rI CDvz fun i j => V.int (i.fdiv j)) (tVar 3) (tVar 4)) tNil)))))
      { nx := fun x H' => Q V.non H', rt := Q } [some (.int t), some (.int p), some (.int r), some (.int b), some (.int sh)] H := fun sh e => by
    have d := fun x => dv x sh e
    subst e
    have out : ∀ q2, H q2 = none → Q (.ref q2) (upd H q2 (.tup [.int (t.fdiv (share t p b)), .int (p.fdiv (share t p b)), .int (if p = 0 then 0 else r), .int (b.fdiv (share t p b))])) := fun q2 hq => q _ _ (same_upd hq) ⟨q2, rfl, upd_same⟩
    refine ⟨_, rfl, _, rfl, _, _, rfl, rfl, d _, _, rfl, _, rfl, _, _, rfl, rfl, d _, _, rfl, rfl, _, rfl, ite_ndec (fun c => ?_) fun c => ?_⟩
    · rw [if_neg fun z => c (congrArg V.int z)] at out
      exact ⟨_, rfl, _, rfl, _, rfl, _, _, rfl, rfl, d _, by show 4 ≤ sizeLine; decide, out⟩
    · rw [if_pos (V.int.inj c)] at out
      exact ⟨_, rfl, _, rfl, _, _, rfl, rfl, d _, by show 4 ≤ sizeLine; decide, out⟩
  refine ⟨_, rfl, _, _, rfl, rfl, _, rfl, ite_dec (fun c => ?_) fun c => ?_⟩
  · exact ⟨_, rfl, _, rfl, fin _ (by unfold share gcd3; rw [if_neg (by omega)])⟩
  · exact fin _ (by unfold share gcd3; rw [if_pos (by omega)])
theorem sc__law_parts_drawn : FnScope ["_law_dice_here", "_law_root", "_law_near", "_law_top", "_law_part"] ["_law_dice_here", "_law_root"] (defScope (topS 37)) := ⟨rfl, rfl, rfl, by decide +kernel, rfl, by decide +kernel, by decide +kernel⟩
theorem ok_lparts (F : Fun K "_law_parts_drawn" "_law_parts_drawn" (topS 37) f fd) (fr : Free mg) (G__law_roll : GD P w K mg base "_law_roll" 2 spRoll) (G__law_pick : GD P w K mg base "_law_pick" 3 spPick) : FnOk P w K mg base CX0 4 f fd ["_law_dice_here", "_law_root"] spParts := by
  refine F.ok sc__law_parts_drawn (fun vs H Q E ⟨_, _, _, e, _⟩ => by rw [e]; rfl) (fun cdv A outer s H vs Q E hr h => ⟨_, (pss_cons (ps_set (i := 2) sc__law_parts_drawn.nd rfl (by first | exact Or.inl rfl | exact Or.inr rfl) (pe_c1 G__law_pick (hr.mono (by decide)) (pa_cons (pv 0) (pa_cons (pe_lst (pa_cons pe_int (pa_cons pe_int (pa_cons pe_int (pa_cons (pe_op op_pow pe_int pe_int) (pa_cons (pe_op op_pow pe_int pe_int) pa_nil)))))) pa_nil))))
  (pss_cons (ps_set (i := 3) sc__law_parts_drawn.nd rfl (by first | exact Or.inl rfl | exact Or.inr rfl) (pe_op op_sub (pe_c1 G__law_roll (hr.mono (by decide)) (pa_cons (pv 0) (pa_cons (pe_op op_add (pe_op op_mulX pe_int (pv 2)) pe_int) pa_nil))) (pv 2)))
  (pss_cons (ps_set (i := 4) sc__law_parts_drawn.nd rfl (by first | exact Or.inl rfl | exact Or.inr rfl) (pe_ifExp (pt_cmpR op_eq (pv 1) pe_int (nomark _)) pe_int (pe_op op_sub (pe_c1 G__law_roll (hr.mono (by decide)) (pa_cons (pv 0) (pa_cons (pe_op op_add (pe_op op_mulX pe_int (pv 2)) pe_int) pa_nil))) (pv 2))))
  (pss_one (ps_ret (pe_tup (pa_cons (pv 3) (pa_cons (pv 4) (pa_cons (pv 1) (pa_cons (pe_c1 G__law_pick (hr.mono (by decide)) (pa_cons (pv 0) (pa_cons (pe_lst (pa_cons pe_int (pa_cons pe_int (pa_cons pe_int (pa_cons pe_int (pa_cons (pe_un un_neg pe_int) (pa_cons pe_int (pa_cons (pe_un un_neg pe_int) (pa_cons pe_int (pa_cons (pe_op op_add pe_int (pe_c1 G__law_roll (hr.mono (by decide)) (pa_cons (pv 0) (pa_cons (pv 2) pa_nil)))) pa_nil)))))))))) pa_nil))) pa_nil)))))))))), ?_⟩)
  obtain ⟨p, r, c, rfl, hd, hc, q⟩ := h
  have sq := fun (xs : List V) (q2 : Addr) (H1 : Hp) (h : H1 q2 = none) (hd : Dice p H1 c) => hd
  refine ⟨_, rfl, _, _, rfl, rfl, ⟨by decide, by decide, by decide⟩, _, _, rfl, rfl, ⟨by decide, by decide, by decide⟩, by show 5 ≤ sizeLine; decide, fun l1 hl1 => ?_⟩
  have p1 : l1 ≠ p := fun z => by
    obtain ⟨_, _, _, h, _⟩ := hd
    rw [z, h] at hl1; cases hl1
  refine ⟨p, l1, _, c, rfl, hd.same (same_upd hl1), by omega, upd_same, p1, by decide, by decide, fun near H1 hin s1 d1 => ?_⟩
  obtain ⟨n, rfl, n0, n1⟩ : ∃ n : Int, near = .int n ∧ 0 < n ∧ n ≤ 10 ^ 30 := by
    simp only [List.mem_cons, List.mem_nil_iff, or_false] at hin
    rcases hin with rfl | rfl | rfl | rfl | rfl
    · exact ⟨_, rfl, by decide, by decide⟩
    · exact ⟨_, rfl, by decide, by decide⟩
    · exact ⟨_, rfl, by decide, by decide⟩
    · exact ⟨_, rfl, by decide, by decide⟩
    · exact ⟨_, rfl, by decide, by decide⟩
  have bn : Bd 100 n := bd_le (10 ^ 30) (by omega) (by decide)
  have bs2 : Bd 10 2 := bd_sm (by decide) (by decide)
  have bw : Bd 9000 (2 * n + 1) := bd_le (2 * 10 ^ 30 + 1) (by omega) (by decide)
  have s01 : SameB p H H1 := (Same.b (same_upd hl1)).trans s1
  refine ⟨_, rfl, _, rfl, _, _, rfl, rfl, bs2.mulx bn (by decide), _, _, rfl, rfl, p, _, c + 1, rfl, d1, by omega, by omega, bw, fun r1 H2 r10 r11 s2 d2 => ⟨_, rfl, _, _, rfl, rfl, ?_⟩⟩
  have bt : Bd 101 (r1 - n) := bd_le (10 ^ 30) (by omega) (by decide)
  have s02 := s01.trans s2
  have tail : ∀ (pt : Int) (c3 : Nat) (H3 : Hp), SameB p H H3 → Dice p H3 c3 → c3 + 2 ≤ c + 10 → Bd 101 pt → (r = 0 → pt = 0) → ∀ o : Option V, tRet (tTup (tCons (tVar 3) (tCons (tVar 4) (tCons (tVar 1) (tCons (tCall spPick [] E0 (tCons (tVar 0) (tCons (tLst
      (tCons (tC (V.int 1)) (tCons (tC (V.int 1)) (tCons (tC (V.int 2)) (tCons (tC (V.int 3)) (tCons (tUn (rU fun i => V.int (-i)) (tC (V.int 4))) (tCons (tC (V.int 6)) (tCons (tUn (rU fun i => V.int (-i)) (tC (V.int 1))) (tCons (tC (V.int 12))
      (tCons (tOp (rI0 fun i j => V.int (i + j)) (tC (V.int 1)) (tCall spRoll [] E0 (tCons (tVar 0) (tCons (tVar 2) tNil)))) tNil)))))))))) tNil))) tNil)))))
      { nx := fun x H' => Q V.non H', rt := Q } [some (.ref p), some (.int r), some (.int n), some (.int (r1 - n)), some (.int pt)] H3 := fun pt c3 H3 s3 d3 l3 bp rp o => by
    refine ⟨_, rfl, _, rfl, _, rfl, _, rfl, _, rfl, _, rfl, _, rfl, _, rfl, p, _, c3, rfl, d3, by omega, n0, bn.mono (by decide), fun r4 H4 r40 r41 s4 d4 => ⟨_, _, rfl, rfl, by show 9 ≤ sizeLine; decide, fun l2 hl2 => ?_⟩⟩
    have p2 : l2 ≠ p := fun z => by
      obtain ⟨_, _, _, h, _⟩ := d4
      rw [z, h] at hl2; cases hl2
    refine ⟨p, l2, _, c3 + 1, rfl, d4.same (same_upd hl2), by omega, upd_same, p2, Nat.zero_lt_succ _, (by decide : 9 ≤ 1000), fun bv H5 hin s5 d5 => ?_⟩
    obtain ⟨b, rfl, b0, bb⟩ : ∃ b : Int, bv = .int b ∧ b ≠ 0 ∧ Bd 101 b := by
      simp only [List.mem_cons, List.mem_nil_iff, or_false] at hin
      rcases hin with rfl | rfl | rfl | rfl | rfl | rfl | rfl | rfl | rfl
      · exact ⟨_, rfl, by decide, bd_sm (by decide) (by decide)⟩
      · exact ⟨_, rfl, by decide, bd_sm (by decide) (by decide)⟩
      · exact ⟨_, rfl, by decide, bd_sm (by decide) (by decide)⟩
      · exact ⟨_, rfl, by decide, bd_sm (by decide) (by decide)⟩
      · exact ⟨_, rfl, by decide, bd_sm (by decide) (by decide)⟩
      · exact ⟨_, rfl, by decide, bd_sm (by decide) (by decide)⟩
      · exact ⟨_, rfl, by decide, bd_sm (by decide) (by decide)⟩
      · exact ⟨_, rfl, by decide, bd_sm (by decide) (by decide)⟩
      · exact ⟨_, rfl, by omega, bd_le (10 ^ 30) (by omega) (by decide)⟩
    have sAll := ((s3.trans s4).trans (Same.b (same_upd hl2))).trans s5
    exact ⟨by show 4 ≤ sizeLine; decide, fun q2 hq => q _ _ _ _ _ (sAll.trans (Same.b (same_upd hq))) ((d5.same (same_upd hq)).mono (by omega)) ⟨q2, rfl, upd_same⟩ b0 bt bp bb rp⟩
  refine ⟨_, rfl, rfl, _, rfl, ite_dec (fun c4 => ?_) fun c4 => ?_⟩
  · exact tail 0 (c + 2) H2 s02 d2 (by omega) (bd_sm (by decide) (by decide)) (fun _ => rfl) none
  · refine ⟨_, rfl, _, rfl, _, _, rfl, rfl, bs2.mulx bn (by decide), _, _, rfl, rfl, p, _, c + 2, rfl, d2, by omega, by omega, bw, fun r3 H3 r30 r31 s3 d3 => ⟨_, rfl, _, _, rfl, rfl, ?_⟩⟩
    exact tail _ (c + 3) H3 (s02.trans s3) d3 (by omega) (bd_le (10 ^ 30) (by omega) (by decide)) (fun z => absurd (congrArg V.int z) c4) none
theorem sc__law_made : FnScope ["_law_parts"] ["_law_parts"] (defScope (topS 38)) := ⟨rfl, rfl, rfl, by decide +kernel, rfl, by decide +kernel, by decide +kernel⟩
theorem ok_lmade (F : Fun K "_law_made" "_law_made" (topS 38) f fd) (fr : Free mg) (G_NumberK : GMK P w K mg base "Number" CN 6 2 ["root", "bottom"] (spNumI CN CF)) : FnOk P w K mg base CX0 8 f fd ["_law_parts"] (spMade CN) := by
  refine F.ok sc__law_made (fun vs H Q E ⟨_, _, e, _⟩ => by rw [e]; rfl) (fun cdv A outer s H vs Q E hr h => ⟨_, (pss_one (ps_ret (pe_mk G_NumberK (hr.mono (by decide)) (pa_cons (pe_ix (ix_tup : IxR _ (rIxT K)) (pv 0) pe_int (fun _ _ => rfl)) (pa_cons (pe_ix (ix_tup : IxR _ (rIxT K)) (pv 0) pe_int (fun _ _ => rfl)) pa_nil)) (pk_cons (pe_ix (ix_tup : IxR _ (rIxT K)) (pv 0) pe_int (fun _ _ => rfl)) (pk_cons (pe_ix (ix_tup : IxR _ (rIxT K)) (pv 0) pe_int (fun _ _ => rfl)) pk_nil))))), ?_⟩)
  obtain ⟨x, n, rfl, ⟨a, rfl, ha⟩, b0, ro, bb, q⟩ := h
  have g0 : ∀ x y z u : V, atI [x, y, z, u] 0 = some x := fun x y z u => atI_nat (j := 0) rfl
  have g1 : ∀ x y z u : V, atI [x, y, z, u] 1 = some y := fun x y z u => atI_nat (j := 1) rfl
  have g2 : ∀ x y z u : V, atI [x, y, z, u] 2 = some z := fun x y z u => atI_nat (j := 2) rfl
  have g3 : ∀ x y z u : V, atI [x, y, z, u] 3 = some u := fun x y z u => atI_nat (j := 3) rfl
  exact ⟨_, rfl, a, _, _, _, rfl, rfl, .of ha, g0 _ _ _ _, _, rfl, a, _, _, _, rfl, rfl, .of ha, g1 _ _ _ _, _, rfl, a, _, _, _, rfl, rfl, .of ha, g2 _ _ _ _, _, rfl, a, _, _, _, rfl, rfl, .of ha, g3 _ _ _ _, rfl, rfl,
    num_made (.inr ⟨_, _, _, _, rfl, b0, ro, bb, rfl⟩) q⟩
theorem sc__law_form : FnScope ["_law_number"] ["_law_number"] (defScope (topS 39)) := ⟨rfl, rfl, rfl, by decide +kernel, rfl, by decide +kernel, by decide +kernel⟩
theorem ok_lform (F : Fun K "_law_form" "_law_form" (topS 39) f fd) (T : NTxt K mg CN CF) (P_top : GP P w K mg base CN "top" 2 (spInt0 CN fun n => n.t)) (P_part : GP P w K mg base CN "part" 2 (spInt0 CN fun n => n.p)) (P_root : GP P w K mg base CN "root" 2 (spInt0 CN fun n => n.r)) (P_bottom : GP P w K mg base CN "bottom" 2 (spInt0 CN fun n => n.b)) : FnOk P w K mg base CX0 4 f fd ["_law_number"] (spLForm CN) := by
  refine F.ok sc__law_form (fun vs H Q E ⟨_, _, e, _⟩ => by rw [e]; rfl) (fun cdv A outer s H vs Q E hr h => ⟨_, (pss_one (ps_ret (pe_tup (pa_cons (pe_p1 T.cN P_top (hr.mono (by decide)) (pv 0)) (pa_cons (pe_p1 T.cN P_part (hr.mono (by decide)) (pv 0)) (pa_cons (pe_p1 T.cN P_root (hr.mono (by decide)) (pv 0)) (pa_cons (pe_p1 T.cN P_bottom (hr.mono (by decide)) (pv 0)) pa_nil))))))), ?_⟩)
  obtain ⟨x, n, rfl, hx, q⟩ := h
  obtain ⟨a, dx, rfl, hs⟩ := hx
  have at4 : At4 CN H (.ref a) n := ⟨a, dx, rfl, hs⟩
  exact ⟨_, rfl, a, dx, _, rfl, hs, _, n, rfl, at4, _, rfl, a, dx, _, rfl, hs, _, n, rfl, at4, _, rfl, a, dx, _, rfl, hs, _, n, rfl, at4, _, rfl, a, dx, _, rfl, hs, _, n, rfl, at4, by show 4 ≤ sizeLine; decide, fun q2 hq => q _ _ (same_upd hq) ⟨q2, rfl, upd_same⟩⟩
theorem sc__law_added : FnScope ["_law_one", "_law_other", "_law_root", "_law_whole", "_law_side"] ["_law_one", "_law_other", "_law_root"] (defScope (topS 40)) := ⟨rfl, rfl, rfl, by decide +kernel, rfl, by decide +kernel, by decide +kernel⟩
theorem ok_ladded (F : Fun K "_law_added" "_law_added" (topS 40) f fd) (fr : Free mg) (G__law_least : GD P w K mg base "_law_least" 3 spLLeast) : FnOk P w K mg base CX0 4 f fd ["_law_one", "_law_other", "_law_root"] (spLAdd lAddN) := by
  refine F.ok sc__law_added (fun vs H Q E ⟨_, _, _, _, _, e, _⟩ => by rw [e]; rfl) (fun cdv A outer s H vs Q E hr h => ⟨_, (pss_cons (ps_set (i := 3) sc__law_added.nd rfl (by first | exact Or.inl rfl | exact Or.inr rfl) (pe_op op_add (pe_op op_mulX (pe_ix (ix_tup : IxR _ (rIxT K)) (pv 0) pe_int (fun _ _ => rfl)) (pe_ix (ix_tup : IxR _ (rIxT K)) (pv 1) pe_int (fun _ _ => rfl))) (pe_op op_mulX (pe_ix (ix_tup : IxR _ (rIxT K)) (pv 1) pe_int (fun _ _ => rfl)) (pe_ix (ix_tup : IxR _ (rIxT K)) (pv 0) pe_int (fun _ _ => rfl)))))
  (pss_cons (ps_set (i := 4) sc__law_added.nd rfl (by first | exact Or.inl rfl | exact Or.inr rfl) (pe_op op_add (pe_op op_mulX (pe_ix (ix_tup : IxR _ (rIxT K)) (pv 0) pe_int (fun _ _ => rfl)) (pe_ix (ix_tup : IxR _ (rIxT K)) (pv 1) pe_int (fun _ _ => rfl))) (pe_op op_mulX (pe_ix (ix_tup : IxR _ (rIxT K)) (pv 1) pe_int (fun _ _ => rfl)) (pe_ix (ix_tup : IxR _ (rIxT K)) (pv 0) pe_int (fun _ _ => rfl)))))
  (pss_one (ps_ret (pe_c1 G__law_least (hr.mono (by decide)) (pa_cons (pv 3) (pa_cons (pv 4) (pa_cons (pv 2) (pa_cons (pe_op op_mulX (pe_ix (ix_tup : IxR _ (rIxT K)) (pv 0) pe_int (fun _ _ => rfl)) (pe_ix (ix_tup : IxR _ (rIxT K)) (pv 1) pe_int (fun _ _ => rfl))) pa_nil))))))))), ?_⟩)
  obtain ⟨x, y, r, a, b, rfl, ⟨ax, rfl, hx⟩, ⟨ay, rfl, hy⟩, b1, b2, b3, b4, b5, b6, n1, n2, br, q⟩ := h
  have g0 : ∀ x y z u : V, atI [x, y, z, u] 0 = some x := fun x y z u => atI_nat (j := 0) rfl
  have g1 : ∀ x y z u : V, atI [x, y, z, u] 1 = some y := fun x y z u => atI_nat (j := 1) rfl
  have g2 : ∀ x y z u : V, atI [x, y, z, u] 2 = some z := fun x y z u => atI_nat (j := 2) rfl
  have g3 : ∀ x y z u : V, atI [x, y, z, u] 3 = some u := fun x y z u => atI_nat (j := 3) rfl
  refine ⟨_, rfl, _, _, _, _, rfl, rfl, .of hx, g0 _ _ _ _, _, rfl, _, _, _, _, rfl, rfl, .of hy, g3 _ _ _ _, _, _, rfl, rfl, b1.mulx b6 (by decide), _, rfl, _, _, _, _, rfl, rfl, .of hy, g0 _ _ _ _, _, rfl, _, _, _, _, rfl, rfl, .of hx, g3 _ _ _ _, _, _, rfl, rfl, b4.mulx b3 (by decide), _, _, rfl, rfl, _, rfl, _, _, _, _, rfl, rfl, .of hx, g1 _ _ _ _, _, rfl, _, _, _, _, rfl, rfl, .of hy, g3 _ _ _ _, _, _, rfl, rfl, b2.mulx b6 (by decide), _, rfl, _, _, _, _, rfl, rfl, .of hy, g1 _ _ _ _, _, rfl, _, _, _, _, rfl, rfl, .of hx, g3 _ _ _ _, _, _, rfl, rfl, b5.mulx b3 (by decide), _, _, rfl, rfl, _, rfl, _, rfl, _, rfl, _, rfl, _, _, _, _, rfl, rfl, .of hx, g3 _ _ _ _, _, rfl, _, _, _, _, rfl, rfl, .of hy, g3 _ _ _ _, _, _, rfl, rfl, b3.mulx b6 (by decide), _, _, _, _, rfl, Int.mul_ne_zero n1 n2, ?_, ?_, (b3.mul b6).mono (by decide), q⟩
  · exact (Bd.add (n := 2000) (m := 2001) (b1.mul b6) (b4.mul b3) rfl).mono (by decide)
  · exact (Bd.add (n := 2000) (m := 2001) (b2.mul b6) (b5.mul b3) rfl).mono (by decide)
theorem sc__law_multiplied : FnScope ["_law_one", "_law_other", "_law_root", "_law_whole", "_law_side"] ["_law_one", "_law_other", "_law_root"] (defScope (topS 41)) := ⟨rfl, rfl, rfl, by decide +kernel, rfl, by decide +kernel, by decide +kernel⟩
theorem ok_lmultiplied (F : Fun K "_law_multiplied" "_law_multiplied" (topS 41) f fd) (fr : Free mg) (G__law_least : GD P w K mg base "_law_least" 3 spLLeast) : FnOk P w K mg base CX0 4 f fd ["_law_one", "_law_other", "_law_root"] (spLAdd lMulN) := by
  refine F.ok sc__law_multiplied (fun vs H Q E ⟨_, _, _, _, _, e, _⟩ => by rw [e]; rfl) (fun cdv A outer s H vs Q E hr h => ⟨_, (pss_cons (ps_set (i := 3) sc__law_multiplied.nd rfl (by first | exact Or.inl rfl | exact Or.inr rfl) (pe_op op_add (pe_op op_mulX (pe_ix (ix_tup : IxR _ (rIxT K)) (pv 0) pe_int (fun _ _ => rfl)) (pe_ix (ix_tup : IxR _ (rIxT K)) (pv 1) pe_int (fun _ _ => rfl))) (pe_op op_mulX (pe_op op_mulX (pe_ix (ix_tup : IxR _ (rIxT K)) (pv 0) pe_int (fun _ _ => rfl)) (pe_ix (ix_tup : IxR _ (rIxT K)) (pv 1) pe_int (fun _ _ => rfl))) (pv 2))))
  (pss_cons (ps_set (i := 4) sc__law_multiplied.nd rfl (by first | exact Or.inl rfl | exact Or.inr rfl) (pe_op op_add (pe_op op_mulX (pe_ix (ix_tup : IxR _ (rIxT K)) (pv 0) pe_int (fun _ _ => rfl)) (pe_ix (ix_tup : IxR _ (rIxT K)) (pv 1) pe_int (fun _ _ => rfl))) (pe_op op_mulX (pe_ix (ix_tup : IxR _ (rIxT K)) (pv 0) pe_int (fun _ _ => rfl)) (pe_ix (ix_tup : IxR _ (rIxT K)) (pv 1) pe_int (fun _ _ => rfl)))))
  (pss_one (ps_ret (pe_c1 G__law_least (hr.mono (by decide)) (pa_cons (pv 3) (pa_cons (pv 4) (pa_cons (pv 2) (pa_cons (pe_op op_mulX (pe_ix (ix_tup : IxR _ (rIxT K)) (pv 0) pe_int (fun _ _ => rfl)) (pe_ix (ix_tup : IxR _ (rIxT K)) (pv 1) pe_int (fun _ _ => rfl))) pa_nil))))))))), ?_⟩)
  obtain ⟨x, y, r, a, b, rfl, ⟨ax, rfl, hx⟩, ⟨ay, rfl, hy⟩, b1, b2, b3, b4, b5, b6, n1, n2, br, q⟩ := h
  have g0 : ∀ x y z u : V, atI [x, y, z, u] 0 = some x := fun x y z u => atI_nat (j := 0) rfl
  have g1 : ∀ x y z u : V, atI [x, y, z, u] 1 = some y := fun x y z u => atI_nat (j := 1) rfl
  have g2 : ∀ x y z u : V, atI [x, y, z, u] 2 = some z := fun x y z u => atI_nat (j := 2) rfl
  have g3 : ∀ x y z u : V, atI [x, y, z, u] 3 = some u := fun x y z u => atI_nat (j := 3) rfl
  refine ⟨_, rfl, _, _, _, _, rfl, rfl, .of hx, g0 _ _ _ _, _, rfl, _, _, _, _, rfl, rfl, .of hy, g0 _ _ _ _, _, _, rfl, rfl, b1.mulx b4 (by decide), _, rfl, _, _, _, _, rfl, rfl, .of hx, g1 _ _ _ _, _, rfl, _, _, _, _, rfl, rfl, .of hy, g1 _ _ _ _, _, _, rfl, rfl, b2.mulx b5 (by decide), _, rfl, _, _, rfl, rfl, (b2.mul b5).mulx br (by decide), _, _, rfl, rfl, _, rfl, _, _, _, _, rfl, rfl, .of hx, g0 _ _ _ _, _, rfl, _, _, _, _, rfl, rfl, .of hy, g1 _ _ _ _, _, _, rfl, rfl, b1.mulx b5 (by decide), _, rfl, _, _, _, _, rfl, rfl, .of hx, g1 _ _ _ _, _, rfl, _, _, _, _, rfl, rfl, .of hy, g0 _ _ _ _, _, _, rfl, rfl, b2.mulx b4 (by decide), _, _, rfl, rfl, _, rfl, _, rfl, _, rfl, _, rfl, _, _, _, _, rfl, rfl, .of hx, g3 _ _ _ _, _, rfl, _, _, _, _, rfl, rfl, .of hy, g3 _ _ _ _, _, _, rfl, rfl, b3.mulx b6 (by decide), _, _, _, _, rfl, Int.mul_ne_zero n1 n2, ?_, ?_, (b3.mul b6).mono (by decide), q⟩
  · exact (Bd.add (n := 2010) (m := 2011) ((b1.mul b4).mono (by decide)) ((b2.mul b5).mul br) rfl).mono (by decide)
  · exact (Bd.add (n := 2000) (m := 2001) (b1.mul b5) (b2.mul b4) rfl).mono (by decide)
end
end PF

set_option Elab.async false
set_option linter.all false
set_option maxRecDepth 100000
set_option maxHeartbeats 4000000
set_option exponentiation.threshold 20000
namespace PF
open PySem PySem.Spec PyProof.Rows L2 SlX
theorem T4.dp {K : PySem.W.Frag} {H : Hp} {v : V} {n : Nm} (h : T4 H v n) : Dp K H v (.tuple [.int n.t, .int n.p, .int n.r, .int n.b]) := by
  obtain ⟨a, rfl, h⟩ := h
  exact .tup (.of h) (.cons (.int _) (.cons (.int _) (.cons (.int _) (.cons (.int _) .nil))))
/-- the data of a number's form -/
def d4 (n : Nm) : PyData := .tuple [.int n.t, .int n.p, .int n.r, .int n.b]
theorem d4_eq (a b : Nm) : PyData.eqv (d4 a) (d4 b) = decide (a = b) := by
  have e : PyData.eqv (d4 a) (d4 b) = ((a.t == b.t) && ((a.p == b.p) && ((a.r == b.r) && ((a.b == b.b) && true)))) := rfl
  rw [e, Bool.eq_iff_iff]
  obtain ⟨t, p, r, q⟩ := a
  obtain ⟨t', p', r', q'⟩ := b
  simp
theorem bd_log {k : Nat} {i : Int} (h : Bd k i) (k0 : 0 < k) : i.natAbs.log2 < k := by
  by_cases c : i.natAbs = 0
  · rw [c]; exact k0
  · exact (Nat.log2_lt c).mpr h
theorem int_short {i : Int} (h : Bd 1000 i) : (PyData.shown (.int i)).length ≤ 1001 := by
  have e := int_text_length_le (k := 1000) (by decide) (bd_log h (by decide))
  show (Str.ofString (toString i)).length ≤ 1001
  rw [PySem.ofString_length]; exact e
theorem d4_short {n : Nm} (h : B3 1000 n) (r : Bd 1000 n.r) : (d4 n).shown.length ≤ sizeLine := by
  have e := PyData.shown_le_bulk 1001 (by decide) (d4 n) (by
    show (decide ((PyData.shown (.int n.t)).length ≤ 1001) && (decide ((PyData.shown (.int n.p)).length ≤ 1001) && (decide ((PyData.shown (.int n.r)).length ≤ 1001) && (decide ((PyData.shown (.int n.b)).length ≤ 1001) && true)))) = true
    rw [decide_eq_true (int_short h.1), decide_eq_true (int_short h.2.1), decide_eq_true (int_short r), decide_eq_true (int_short h.2.2)]; rfl)
  have e2 : (d4 n).bulk = 4 := rfl
  rw [e2] at e
  rw [sizeLine_eq]; omega
theorem rd4 {K : PySem.W.Frag} {H : Hp} {v : V} {n : Nm} {Q : VK} (t : T4 H v n) (h : B3 1000 n) (r : Bd 1000 n.r) (q : Q (.str (d4 n).shown) H) : rRepr K [v] H Q := by
  have k : ∀ {i : Int}, Bd 1000 i → i.natAbs.log2 < 1920 := fun b => Nat.lt_trans (bd_log b (by decide)) (by decide)
  refine ⟨v, d4 n, rfl, t.dp, ?_, rfl, d4_short h r, (by show 1 ≤ 64; decide), q⟩
  show (decide (n.t.natAbs.log2 < 1920) && (decide (n.p.natAbs.log2 < 1920) && (decide (n.r.natAbs.log2 < 1920) && (decide (n.b.natAbs.log2 < 1920) && true)))) = true
  rw [decide_eq_true (k h.1), decide_eq_true (k h.2.1), decide_eq_true (k r), decide_eq_true (k h.2.2)]; rfl
theorem rdI {K : PySem.W.Frag} {H : Hp} {i : Int} {Q : VK} (h : Bd 1000 i) (q : Q (.str (PyData.shown (.int i))) H) : rRepr K [.int i] H Q :=
  ⟨_, .int i, rfl, .int i, decide_eq_true (Nat.lt_trans (bd_log h (by decide)) (by decide)), rfl, by have := int_short h; rw [sizeLine_eq]; omega, by show 0 ≤ 64; decide, q⟩
theorem sgn_abs1 (v : Int) : (sgn v).natAbs ≤ 1 := sgn_abs v
theorem sgnSum_abs (t p r : Int) : (sgnSum t p r).natAbs ≤ 1 := by
  unfold sgnSum
  split
  · exact sgn_abs t
  · split
    · exact sgn_abs p
    · rw [Int.natAbs_mul]
      exact Nat.mul_le_mul (sgn_abs t) (sgn_abs _)
theorem fdiv_bd {x b : Int} {k : Nat} (h : Bd k x) (b0 : 0 < b) : Bd (k + 1) (x.fdiv b) := by
  have d := fdiv_bds x b0
  unfold Bd at *
  have l : (x.fdiv b).natAbs ≤ x.natAbs + 1 := by
    by_cases c : 0 ≤ x.fdiv b
    · have := Int.mul_le_mul_of_nonneg_left (show 1 ≤ b by omega) c
      omega
    · have := Int.mul_le_mul_of_nonneg_left (show 1 ≤ b by omega) (show 0 ≤ -(x.fdiv b) - 1 by omega)
      have e : (-(x.fdiv b) - 1) * b = -(x.fdiv b * b) - b := by grind
      omega
  rw [Nat.pow_succ]; omega
theorem floor_bd {R : Int} {n : Nm} (h : Okn R n) (hR : okR R) (b : B3 101 n) : Bd 400 (floorN n.t n.p n.r n.b) := by
  have hb := h.nrm.b
  unfold floorN
  split
  · exact (fdiv_bd b.1 hb).mono (by decide)
  · have k : ((isq (n.p * n.p * n.r).toNat : Nat) : Int).natAbs ≤ 2 ^ 106 := by
      rw [Int.natAbs_natCast]
      refine isq_bits _ (Nat.lt_of_le_of_lt ?_ ((b.2.1.mul b.2.1).mul (h.rb hR)))
      omega
    generalize ((isq (n.p * n.p * n.r).toNat : Nat) : Int) = q at *
    have bq : Bd 107 q := Nat.lt_of_le_of_lt k (Nat.pow_lt_pow_right (by decide) (by decide))
    have b1 : Bd 108 (if 0 < n.p then q else -q - 1) := by
      split
      · exact bq.mono (by decide)
      · exact Bd.sub (n := 107) bq.neg (bd_sm (by decide) (by decide)) rfl
    exact (fdiv_bd (Bd.add (n := 108) (m := 109) (b.1.mono (by decide)) b1 rfl) hb).mono (by decide)
theorem and_split {p : Prop} [Decidable p] {A S B C : Prop} (rest : C → B) (hc : ¬ p → C) (h : (C → B) → p → S) : if decide p = true then S else (if false = true then A else B) := ite_dec (h rest) fun z => rest (hc z)
section
variable {K : PySem.W.Frag} {mg : Str → Option Value} {CN CF : Addr} {H : Hp} {x y : V} {a b : Nm} {Q : VK} {R : Int}
theorem At4.sl {v : V} {n : Nm} {C : Addr} (h : At4 C H v n) {sp : Sp} {E : XK} (k : sp [v] H Q E) : ∃ a dx vs, v = .ref a ∧ Slt H a C dx vs ∧ sp [.ref a] H Q E := by
  obtain ⟨a, dx, rfl, s⟩ := h
  exact ⟨a, dx, _, rfl, s, k⟩
theorem At4.neg {v : V} {n : Nm} {C : Addr} (h : At4 C H v n) {sp : Sp} {E : XK} (k : sp [v] H Q E) : rNegS C sp E v H Q := by
  obtain ⟨a, dx, rfl, s⟩ := h
  exact ⟨a, dx, _, rfl, s, k⟩
theorem At4.me {v : V} {n : Nm} {C : Addr} (h : At4 C H v n) {P : Prop} (k : P) : ∃ a dx vs, v = .ref a ∧ Slt H a C dx vs ∧ P := by
  obtain ⟨a, dx, rfl, s⟩ := h
  exact ⟨a, dx, _, rfl, s, k⟩
theorem bin2 {g : Nm → Nm → Nm} {C : Nm → Nm → Prop} (hR : okR R) (ka : Okn R a) (kb : Okn R b) (ba : B3 1000 a) (bb : B3 1000 b) (hx : At4 CN H x a) (hy : NI CN H y b) (c : C a b) (q : ∀ v H', Same H H' → At4 CN H' v (g a b) → Q v H') : spBin CN g C [x, y] H Q E0 :=
  ⟨x, y, a, b, rfl, hx, hy, ka.cm kb, ka.gd hR ba.1 ba.2.1 ba.2.2, kb.gd hR bb.1 bb.2.1 bb.2.2, c, q⟩
theorem bin1 {g : Nm → Nm → Nm} {C : Nm → Nm → Prop} (hR : okR R) (ka : Okn R a) (kb : Okn R b) (ba : B3 1000 a) (bb : B3 1000 b) (hx : At4 CN H x a) (hy : NI CN H y b) (c : C a b) (q : ∀ v H', Same H H' → At4 CN H' v (g a b) → Q v H') : rBin CN (spBin CN g C) x y H Q := by
  have s := bin2 (Q := Q) hR ka kb ba bb hx hy c q
  refine ⟨?_, ?_, s⟩
  · obtain ⟨p, dx, rfl, k⟩ := hx; exact ⟨p, dx, _, rfl, k⟩
  · rcases hy with hy | ⟨i, rfl, _⟩
    · obtain ⟨p, dx, rfl, k⟩ := hy; exact .inl ⟨p, dx, _, rfl, k⟩
    · exact .inr ⟨i, rfl⟩
theorem cmp1 (T : NTxt K mg CN CF) {neg : Bool} (hx : At4 CN H x a) (hy : At4 CN H y b) (q : Q (.bl (if neg then !decide (a = b) else decide (a = b))) H) : rCmpS K CN neg (spEq K CN) E0 x y H Q := by
  have ty := hy.ty T.cN T.yN
  obtain ⟨p, dx, rfl, k⟩ := hx
  exact ⟨p, dx, _, .ref CN, rfl, k, ty, by unfold PySem.W.notFirst; simp, _, _, a, rfl, ⟨p, dx, rfl, k⟩, .inl ⟨b, hy, _, rfl, q⟩⟩
theorem un1 {g : Nm → Nm} (hR : okR R) (ka : Okn R a) (ba : B3 1000 a) (hx : At4 CN H x a) (q : ∀ v H', Same H H' → At4 CN H' v (g a) → Q v H') : spUn CN g [x] H Q E0 := ⟨x, a, rfl, hx, ka.gd hR ba.1 ba.2.1 ba.2.2, q⟩
theorem int1 {g : Nm → Int} (hR : okR R) (ka : Okn R a) (ba : B3 1000 a) (hx : At4 CN H x a) (q : Q (.int (g a)) H) : spInt CN g [x] H Q E0 := ⟨x, a, rfl, hx, ka.gd hR ba.1 ba.2.1 ba.2.2, q⟩
end
theorem num_made2 {CN CF : Addr} {H : Hp} {G : Addr → Hp → Prop} {vs : List V} {n : Nm} (h : Arg4 CF H vs n) (q : ∀ x H', Same H H' → At4 CN H' (.ref x) n → G x H') :
    ∀ x dx, H x = none → H dx = none → dx ≠ x → spNumI CN CF (.ref x :: vs) (upd (upd H dx (.own x)) x (.ins CN dx [])) (fun v H2 => v = .non ∧ G x H2) E0 := fun x dx nx nd ne =>
  num_made (Q := fun v H2 => ∃ y, v = .ref y ∧ G y H2) h (fun v H' s a => by
    have a' := a
    obtain ⟨y, _, rfl, _⟩ := a
    exact ⟨y, rfl, q y H' s a'⟩) x dx nx nd ne |> fun z => by
      obtain ⟨a, dx', rest, n', e, ne', hs, ha, k⟩ := z
      exact ⟨a, dx', rest, n', e, ne', hs, ha, fun H1 s => by
        obtain ⟨e1, y, e2, g⟩ := k H1 s
        obtain rfl : x = y := V.ref.inj e2
        exact ⟨rfl, g⟩⟩
/-- one by one -/
inductive All2 {α : Type} (f : V → α → Prop) : List V → List α → Prop where
  | nil : All2 f [] []
  | cons {v : V} {n : α} {vs : List V} {ns : List α} (h : f v n) (t : All2 f vs ns) : All2 f (v :: vs) (n :: ns)
theorem All2.snoc {α : Type} {f : V → α → Prop} {vs : List V} {ns : List α} {v : V} {n : α} (h : All2 f vs ns) (k : f v n) : All2 f (vs ++ [v]) (ns ++ [n]) := by
  induction h with
  | nil => exact .cons k .nil
  | cons h _ ih => exact .cons h ih
theorem All2.imp {α : Type} {f g : V → α → Prop} {vs : List V} {ns : List α} (h : All2 f vs ns) (k : ∀ v n, f v n → g v n) : All2 g vs ns := by
  induction h with
  | nil => exact .nil
  | cons h _ ih => exact .cons (k _ _ h) ih
theorem All2.len {α : Type} {f : V → α → Prop} {vs : List V} {ns : List α} (h : All2 f vs ns) : vs.length = ns.length := by
  induction h with
  | nil => rfl
  | cons h _ ih => rw [List.length_cons, List.length_cons, ih]
/-- a comprehension that reckons each item by itself -/
theorem lc_map {α : Type} {K : PySem.W.Frag} {a : Addr} {xs : List V} {te : TE} {j : Nat} {σ : L2.St} {H1 : Hp} {D : Addr} {Qd : Hp → Prop} (G : Hp → V → α → Prop) (ns : List α) (hx : H1 a = some (.lst xs)) (hl : xs.length = ns.length) (hs : ns.length ≤ 1000) (hD : H1 D = none)
    (stab : ∀ H H' v n l, H D = some (.lst l) → G H v n → SameB D H H' → G H' v n)
    (step : ∀ (k : Nat) x n H', xs[k]? = some x → ns[k]? = some n → Same H1 H' → ∀ Q : VK, (∀ y H'', Same H' H'' → G H'' y n → Q y H'') → te ((wipe σ [j]).set j (some x)) H' Q)
    (fin : ∀ H' vs, Same H1 H' → H' D = some (.lst vs) → All2 (G H') vs ns → Qd H') :
    ∃ W : Nat → Nat → Hp → Prop, (∃ m, W 0 m (upd H1 D (.lst []))) ∧ ∀ i m H, W i m H →
      ((Itl K a).stop i H ∧ Qd H) ∨ ((Itl K a).go i H ∧ ∃ Nx : Hp → Prop, (∀ H', Nx H' → ∃ m', m' < m ∧ W (i + 1) m' H') ∧ ∀ x H', (Itl K a).yld i H x H' → gName j x (wipe σ [j]) H' fun σ2 H2 => wipe σ2 [j] = wipe σ [j] ∧ tYes σ2 H2 fun b H3 =>
        if b = true then te σ2 H3 fun y H4 => ∃ acc, H4 D = some (.lst acc) ∧ acc.length < sizeLine ∧ Nx (upd H4 D (.lst (acc ++ [y]))) else Nx H3) := by
  have aD : a ≠ D := ne_of_none hx hD
  refine lc_list (xs := xs) (fun i H' => ∃ vs, H' D = some (.lst vs) ∧ Same H1 H' ∧ All2 (G H') vs (ns.take i)) ⟨[], upd_same, same_upd hD, by rw [List.take_zero]; exact .nil⟩ (fun i H' _ ⟨_, _, s, _⟩ => .of (s _ _ hx)) ?_ ?_
  · rintro i x H' hi ⟨vs, hv, s, al⟩
    have li : i < ns.length := by
      have := (List.getElem?_eq_some_iff.mp hi).1
      omega
    refine ⟨by show ((wipe σ [j]).set j (some x)).set j none = _; show (((σ.set j none).set j (some x)).set j none) = σ.set j none; rw [List.set_set, List.set_set], ?_⟩
    refine step i x ns[i] H' hi (List.getElem?_eq_getElem li) s _ fun y H'' s' g => ⟨vs, s' _ _ hv, ?_, _, upd_same, ?_, ?_⟩
    · have := al.len
      rw [this, List.length_take, sizeLine_eq]; omega
    · intro b o e
      rw [upd_ne (ne_of_none e hD)]
      exact s' _ _ (s _ _ e)
    · have e : ns.take (i + 1) = ns.take i ++ [ns[i]] := by rw [List.take_succ, List.getElem?_eq_getElem li]; rfl
      rw [e]
      have sb : SameB D H'' (upd H'' D (.lst (vs ++ [y]))) := (SameB.refl D H'').upd
      refine All2.snoc (al.imp fun v n g => stab _ _ v n _ hv g ?_) (stab _ _ y _ _ (s' _ _ hv) g sb)
      exact (Same.b s').trans sb
  · rintro H' ⟨vs, hv, s, al⟩
    rw [hl, List.take_length] at al
    exact fin H' vs s hv al
theorem T4.stab {H H' : Hp} {v : V} {n : Nm} {D : Addr} {l : List V} (h : H D = some (.lst l)) (t : T4 H v n) (s : SameB D H H') : T4 H' v n := by
  obtain ⟨a, rfl, e⟩ := t
  exact ⟨a, rfl, s _ _ (fun z => by rw [z, h] at e; cases e) e⟩
theorem At4.stab {C : Addr} {H H' : Hp} {v : V} {n : Nm} {D : Addr} {l : List V} (h : H D = some (.lst l)) (t : At4 C H v n) (s : SameB D H H') : At4 C H' v n := by
  obtain ⟨a, dx, rfl, e⟩ := t
  refine ⟨a, dx, rfl, ?_⟩
  rcases e with ⟨_, h2⟩ | ⟨h1, h2⟩
  · cases h2
  · exact .inr ⟨s _ _ (fun z => by rw [z, h] at h1; unfold SlO at h1; cases h1) h1, s _ _ (fun z => by rw [z, h] at h2; cases h2) h2⟩
/-- a row drawn -/
structure Row (R : Int) (n : Nm) : Prop where
  b0 : n.b ≠ 0
  r : n.r = R ∨ n.r = 0
  z : n.r = 0 → n.p = 0
  b3 : B3 101 n
def nrmN (n : Nm) : Nm := mkNm n.t n.p n.r n.b
theorem Row.okn {R : Int} {n : Nm} (h : Row R n) : Okn R (nrmN n) := Okn.mk' h.b0 (fun p => h.r.resolve_right fun z => p (h.z z)) fun z => h.z (h.r.elim (fun e => e.trans z) id)
theorem Row.nb3 {R : Int} {n : Nm} (h : Row R n) : B3 101 (nrmN n) := mk_bd h.b3.1 h.b3.2.1 h.b3.2.2
theorem Row.ok {R : Int} {n : Nm} (h : Row R n) (hR : okR R) : okRoot n.r n.p := by
  by_cases c : n.r = 0
  · exact .inl ⟨c, h.z c⟩
  · exact .inr (by rw [h.r.resolve_right c]; exact okR_root hR fun z => c (by rw [h.r.resolve_right c, z]))
theorem and_splitH {p : Prop} [Decidable p] {A S : Prop} {B : Hp → Prop} {H : Hp} (rest : ∀ H', Same H H' → B H') (h : (∀ H', Same H H' → B H') → ¬ p → S) : if (!decide p) = true then S else (if false = true then A else B H) := ite_ndec (h rest) fun _ => rest H (Same.refl H)
def spAlone (CN : Addr) : Sp := fun vs H Q _ => ∃ x y R n, vs = [x, y] ∧ At4 CN H x n ∧ T4 H y n ∧ okR R ∧ Okn R n ∧ B3 101 n ∧ ∀ H', Same H H' → Q (.bl true) H'
def spTwo (CN : Addr) : Sp := fun vs H Q _ => ∃ x y l va vb rs R a b, vs = [x, y, .ref l, .int R] ∧ At4 CN H x a ∧ At4 CN H y b ∧ H l = some (.lst (va :: vb :: rs)) ∧ T4 H va a ∧ T4 H vb b ∧ okR R ∧ Okn R a ∧ Okn R b ∧ B3 101 a ∧ B3 101 b ∧ ∀ H', Same H H' → Q (.bl true) H'
def spRight : Sp := fun vs H Q _ => ∃ p, vs = [.ref p] ∧ Dice p H 0 ∧ ∀ H', SameB p H H' → Q (.bl true) H'
def spLaw (K : PySem.W.Frag) : Sp := fun vs H Q _ => ∃ (a : Addr) (ns : List Int), vs = [.ref a] ∧ SqL K H a (ns.map V.int) ∧ ns.length ≤ 100 ∧ ∀ H', Q (.bl true) H'
section
variable {P : Program} {w : World} {K : PySem.W.Frag} {mg : Str → Option Value} {base : Heap} {f CN CF : Addr} {fd : FuncData}
theorem sc__law_alone_right : FnScope ["_law_number", "_law_form_here", "_law_top", "_law_part", "_law_root", "_law_bottom", "_law_floor", "_law_norm"] ["_law_number", "_law_form_here"] (defScope (topS 42)) := ⟨rfl, rfl, rfl, by decide +kernel, rfl, by decide +kernel, by decide +kernel⟩
theorem ok_lalone (F : Fun K "_law_alone_right" "_law_alone_right" (topS 42) f fd) (bn : Binds K fd ["_law_number", "_law_form_here"] []) (fr : Free mg) (T : NTxt K mg CN CF) (G__law_form : GD P w K mg base "_law_form" 4 (spLForm CN)) (G__law_sign : GD P w K mg base "_law_sign" 2 spLSign) (G__law_least : GD P w K mg base "_law_least" 3 spLLeast)
    (P_sign : GP P w K mg base CN "sign" 4 (spInt CN fun n => sgnSum n.t n.p n.r)) (P_floor : GP P w K mg base CN "floor" 4 (spInt CN fun n => floorN n.t n.p n.r n.b)) (P_mirror : GP P w K mg base CN "mirror" 8 (spUn CN mirN)) (P_norm : GP P w K mg base CN "norm" 8 (spUn CN normN)) (G_neg : GN P w K mg base CN 8 (spUn CN negN)) :
    FnG P w K mg base 20 f 2 (spAlone CN) := by
  refine PF.Fun.okG F sc__law_alone_right bn (fun cdv A outer s H vs Q hgd hr h => ⟨_, (pss_cons (ps_asg (pv 1) (pg_tup (by rfl) (pgs_cons (pg_name (i := 2) sc__law_alone_right.nd rfl (by first | exact Or.inl rfl | exact Or.inr rfl)) (pgs_cons (pg_name (i := 3) sc__law_alone_right.nd rfl (by first | exact Or.inl rfl | exact Or.inr rfl)) (pgs_cons (pg_name (i := 4) sc__law_alone_right.nd rfl (by first | exact Or.inl rfl | exact Or.inr rfl)) (pgs_cons (pg_name (i := 5) sc__law_alone_right.nd rfl (by first | exact Or.inl rfl | exact Or.inr rfl)) pgs_nil))))))
  (pss_cons (ps_if (PW.pt (pw_or (pt_cmpR op_ne (pe_callB (call_repr hgd (hu100 hr)) (by rfl) fr.b_repr (by decide +kernel) (pa_cons (pe_c1 G__law_form (hr.mono (by decide)) (pa_cons (pv 0) pa_nil)) pa_nil)) (pe_callB (call_repr hgd (hu100 hr)) (by rfl) fr.b_repr (by decide +kernel) (pa_cons (pv 1) pa_nil)) (nomark _)) (pw_or1 (pt_cmpR op_ne (pe_callB (call_repr hgd (hu100 hr)) (by rfl) fr.b_repr (by decide +kernel) (pa_cons (pe_p1 T.cN P_sign (hr.mono (by decide)) (pv 0)) pa_nil)) (pe_callB (call_repr hgd (hu100 hr)) (by rfl) fr.b_repr (by decide +kernel) (pa_cons (pe_c1 G__law_sign (hr.mono (by decide)) (pa_cons (pe_tup (pa_cons (pv 2) (pa_cons (pv 3) pa_nil))) (pa_cons (pv 4) pa_nil))) pa_nil)) (nomark _))))) (pss_one (ps_ret pe_bl)) pss_nil)
  (pss_cons (ps_set (i := 6) sc__law_alone_right.nd rfl (by first | exact Or.inl rfl | exact Or.inr rfl) (pe_p1 T.cN P_floor (hr.mono (by decide)) (pv 0)))
  (pss_cons (ps_if (PW.pt (pw_or (pt_val (pe_callB call_isiU (by rfl) fr.b_isinstance (by decide +kernel) (pa_cons (pv 6) (pa_cons (pe_bltn (v := .ty "bool") (by rfl) fr.b_bool (by decide +kernel) rfl) pa_nil)))) (pw_or (pt_not (pt_val (pe_callB call_isiU (by rfl) fr.b_isinstance (by decide +kernel) (pa_cons (pv 6) (pa_cons (pe_bltn (v := .ty "int") (by rfl) fr.b_int (by decide +kernel) rfl) pa_nil))))) (pw_or1 (pt_cmpR op_lt (pe_c1 G__law_sign (hr.mono (by decide)) (pa_cons (pe_tup (pa_cons (pe_op op_sub (pv 2) (pe_op op_mulX (pv 6) (pv 5))) (pa_cons (pv 3) pa_nil))) (pa_cons (pv 4) pa_nil))) pe_int (nomark _)))))) (pss_one (ps_ret pe_bl)) pss_nil)
  (pss_cons (ps_if (PW.pt (pw_or (pt_cmpR op_ge (pe_c1 G__law_sign (hr.mono (by decide)) (pa_cons (pe_tup (pa_cons (pe_op op_sub (pe_op op_sub (pv 2) (pe_op op_mulX (pv 6) (pv 5))) (pv 5)) (pa_cons (pv 3) pa_nil))) (pa_cons (pv 4) pa_nil))) pe_int (nomark _)) (pw_or1 (pt_cmpR (op_neD (hu64 hr) : OpR _ _ (rNeD K)) (pe_c1 G__law_form (hr.mono (by decide)) (pa_cons (pe_un (un_n G_neg (hr.mono (by decide))) (pv 0)) pa_nil)) (pe_tup (pa_cons (pe_un un_neg (pv 2)) (pa_cons (pe_un un_neg (pv 3)) (pa_cons (pv 4) (pa_cons (pv 5) pa_nil))))) (nomark _))))) (pss_one (ps_ret pe_bl)) pss_nil)
  (pss_cons (ps_set (i := 7) sc__law_alone_right.nd rfl (by first | exact Or.inl rfl | exact Or.inr rfl) (pe_c1 G__law_least (hr.mono (by decide)) (pa_cons (pe_op op_sub (pe_op op_mulX (pv 2) (pv 2)) (pe_op op_mulX (pe_op op_mulX (pv 3) (pv 3)) (pv 4))) (pa_cons pe_int (pa_cons pe_int (pa_cons (pe_op op_mulX (pv 5) (pv 5)) pa_nil))))))
  (pss_one (ps_ret (pe_and (pe_cmpR (op_eqD (hu64 hr) : OpR _ _ (rEqD K)) (pe_c1 G__law_form (hr.mono (by decide)) (pa_cons (pe_p1 T.cN P_mirror (hr.mono (by decide)) (pv 0)) pa_nil)) (pe_tup (pa_cons (pv 2) (pa_cons (pe_un un_neg (pv 3)) (pa_cons (pv 4) (pa_cons (pv 5) pa_nil))))) (nomark _)) (pe_one (pe_cmpR (op_eqD (hu64 hr) : OpR _ _ (rEqD K)) (pe_c1 G__law_form (hr.mono (by decide)) (pa_cons (pe_p1 T.cN P_norm (hr.mono (by decide)) (pv 0)) pa_nil)) (pv 7) (nomark _)))))))))))), ?_⟩)
  obtain ⟨x, y, R, n, rfl, hx, ⟨ay, rfl, hy⟩, hR, hn, b3, q⟩ := h
  have b4 : B3 1000 n := b3.mono (by decide)
  have hr0 := hn.rb hR
  have t4 : T4 H (.ref ay) n := ⟨ay, rfl, hy⟩
  have irp : ∀ x : Int, n.p ≠ 0 → x * x ≠ n.p * n.p * n.r := fun x p0 => hn.irr hR (fun _ => p0) p0
  have hb := hn.nrm.b
  refine ⟨_, rfl, ay, _, rfl, .of hy, rfl, _, _, rfl, _, _, rfl, _, _, rfl, _, _, rfl, rfl, ?_⟩
  -- the form and its repr
  refine ⟨_, rfl, x, n, rfl, hx, fun v1 H1 s1 t1 => ?_⟩
  dsimp only [tNil]
  refine rd4 t1 b4 (hr0.mono (by decide)) ⟨_, rfl, ?_⟩
  dsimp only [tNil]
  refine rd4 (t4.same s1) b4 (hr0.mono (by decide)) ⟨rfl, _, rfl, ite_ndec (fun c => absurd rfl c) fun _ => ?_⟩
  -- the sign
  have hx1 := hx.same s1
  refine ⟨_, rfl, hx1.sl (int1 hR hn b4 hx1 ?_)⟩
  dsimp only [tNil]
  have bs : ∀ t p r, Bd 1000 (sgnSum t p r) := fun t p r => bd_le 1 (sgnSum_abs t p r) (by decide)
  refine rdI (bs _ _ _) ⟨_, rfl, _, rfl, by show 2 ≤ sizeLine; decide, fun q1 n1 => ⟨_, rfl, q1, n.t, n.p, n.r, rfl, upd_same, b3.1.mono (by decide), b3.2.1.mono (by decide), hr0, irp n.t, ?_⟩⟩
  dsimp only [tNil]
  refine rdI (bs _ _ _) ⟨rfl, _, rfl, ite_ndec (fun c => absurd rfl c) fun _ => ?_⟩
  have s2 : Same H (upd H1 q1 (.tup [.int n.t, .int n.p])) := s1.trans (same_upd n1)
  generalize upd H1 q1 (.tup [.int n.t, .int n.p]) = H2 at s2 ⊢
  -- the floor
  have hx2 := hx.same s2
  obtain ⟨f1, f2⟩ := hn.floor hR
  have fb := floor_bd hn hR b3
  have bF : Bd 501 (floorN n.t n.p n.r n.b * n.b) := (fb.mul b3.2.2).mono (by decide)
  refine ⟨_, rfl, hx2.sl (int1 hR hn b4 hx2 ?_)⟩
  generalize floorN n.t n.p n.r n.b = F at *
  refine ⟨_, rfl, .int F, .ty "bool", _, _, false, rfl, .ty _, ty_int _ F, kit_ty (by decide +kernel), false, rfl, _, rfl, .int F, .ty "int", _, _, true, rfl, .ty _, ty_int _ F, kit_ii, true, rfl, ?_⟩
  refine ⟨_, rfl, _, rfl, _, rfl, _, _, rfl, rfl, fb.mulx b3.2.2 (by decide), _, _, rfl, rfl, _, rfl, by show 2 ≤ sizeLine; decide, fun q2 n2 => ⟨_, rfl, q2, n.t - F * n.b, n.p, n.r, rfl, upd_same, (Bd.sub (n := 501) (m := 502) (b3.1.mono (by decide)) bF rfl).mono (by decide), b3.2.1.mono (by decide), hr0, irp _, _, _, rfl, rfl, _, rfl, ite_dec (fun c => absurd c (by omega)) fun _ => ?_⟩⟩
  have s3 : Same H (upd H2 q2 (.tup [.int (n.t - F * n.b), .int n.p])) := s2.trans (same_upd n2)
  generalize upd H2 q2 (.tup [.int (n.t - F * n.b), .int n.p]) = H3 at s3 ⊢
  refine ⟨_, rfl, _, rfl, _, rfl, _, _, rfl, rfl, fb.mulx b3.2.2 (by decide), _, _, rfl, rfl, _, rfl, _, _, rfl, rfl, _, rfl, by show 2 ≤ sizeLine; decide, fun q3 n3 => ⟨_, rfl, q3, n.t - F * n.b - n.b, n.p, n.r, rfl, upd_same, (Bd.sub (n := 502) (m := 503) (Bd.sub (n := 501) (m := 502) (b3.1.mono (by decide)) bF rfl) (b3.2.2.mono (by decide)) rfl).mono (by decide), b3.2.1.mono (by decide), hr0, irp _, _, _, rfl, rfl, _, rfl, ite_dec (fun c => absurd c (by omega)) fun _ => ?_⟩⟩
  have s4 : Same H (upd H3 q3 (.tup [.int (n.t - F * n.b - n.b), .int n.p])) := s3.trans (same_upd n3)
  generalize upd H3 q3 (.tup [.int (n.t - F * n.b - n.b), .int n.p]) = H4 at s4 ⊢
  -- the other sign
  have hx4 := hx.same s4
  refine ⟨_, rfl, hx4.neg (un1 hR hn b4 hx4 fun v5 H5 s5 h5 => ⟨v5, _, rfl, h5, fun v6 H6 s6 t6 => ⟨_, rfl, _, rfl, _, rfl, _, rfl, _, rfl, _, rfl, by show 4 ≤ sizeLine; decide, fun q7 n7 => ?_⟩⟩)⟩
  rw [hn.neg] at t6
  have t7 : T4 (upd H6 q7 (.tup [.int (-n.t), .int (-n.p), .int n.r, .int n.b])) (.ref q7) (lessN n) := ⟨q7, rfl, upd_same⟩
  refine ⟨_, _, (t6.same (same_upd n7)).dp, t7.dp, rfl, rfl, ?_⟩
  have s7 : Same H (upd H6 q7 (.tup [.int (-n.t), .int (-n.p), .int n.r, .int n.b])) := ((s4.trans s5).trans s6).trans (same_upd n7)
  generalize upd H6 q7 (.tup [.int (-n.t), .int (-n.p), .int n.r, .int n.b]) = H7 at s7 ⊢
  refine ⟨_, rfl, ?_⟩
  have e7 := d4_eq (lessN n) (lessN n)
  unfold d4 at e7
  rw [e7, decide_eq_true rfl]
  refine ⟨_, rfl, _, rfl, _, _, rfl, rfl, b3.1.mulx b3.1 (by decide), _, rfl, _, rfl, _, _, rfl, rfl, b3.2.1.mulx b3.2.1 (by decide), _, rfl, _, _, rfl, rfl, (b3.2.1.mul b3.2.1).mulx hr0 (by decide), _, _, rfl, rfl, _, rfl, _, rfl, _, _, rfl, rfl, b3.2.2.mulx b3.2.2 (by decide),
    _, _, _, _, rfl, Int.mul_ne_zero (by omega) (by omega), (Bd.sub (n := 212) (m := 213) ((b3.1.mul b3.1).mono (by decide)) ((b3.2.1.mul b3.2.1).mul hr0) rfl).mono (by decide), bd_sm (by decide) (by decide), (b3.2.2.mul b3.2.2).mono (by decide), fun v8 H8 s8 t8 => ?_⟩
  have hx8 := hx.same (s7.trans s8)
  refine ⟨_, rfl, hx8.sl (un1 hR hn b4 hx8 fun v9 H9 s9 h9 => ⟨v9, _, rfl, h9, fun v10 H10 s10 t10 => ⟨_, rfl, _, rfl, _, rfl, _, rfl, _, rfl, by show 4 ≤ sizeLine; decide, fun q11 n11 => ?_⟩⟩)⟩
  rw [hn.mir] at t10
  have t11 : T4 (upd H10 q11 (.tup [.int n.t, .int (-n.p), .int n.r, .int n.b])) (.ref q11) ⟨n.t, -n.p, n.r, n.b⟩ := ⟨q11, rfl, upd_same⟩
  refine ⟨_, _, (t10.same (same_upd n11)).dp, t11.dp, rfl, rfl, ?_⟩
  have s11 : Same H8 (upd H10 q11 (.tup [.int n.t, .int (-n.p), .int n.r, .int n.b])) := (s9.trans s10).trans (same_upd n11)
  generalize upd H10 q11 (.tup [.int n.t, .int (-n.p), .int n.r, .int n.b]) = H11 at s11 ⊢
  have e11 := d4_eq ⟨n.t, -n.p, n.r, n.b⟩ ⟨n.t, -n.p, n.r, n.b⟩
  unfold d4 at e11
  rw [e11, decide_eq_true rfl]
  refine ⟨_, rfl, ?_⟩
  have hx11 := hx8.same s11
  refine ⟨_, rfl, hx11.sl (un1 hR hn b4 hx11 fun v12 H12 s12 h12 => ⟨v12, _, rfl, h12, fun v13 H13 s13 t13 => ⟨_, rfl, ?_⟩⟩)⟩
  refine ⟨_, _, t13.dp, (((t8.same s11).same s12).same s13).dp, rfl, rfl, ?_⟩
  have e13 := d4_eq (normN n) (normN n)
  unfold d4 at e13
  rw [show (mkNm (n.t * n.t - n.p * n.p * n.r) 0 0 (n.b * n.b)) = normN n from rfl, e13, decide_eq_true rfl]
  exact q _ (((((s7.trans s8).trans s11).trans s12).trans s13))
theorem sc__law_two_right : FnScope ["_law_one", "_law_other", "_law_forms", "_law_root", "_law_less", "_law_told", "_law_due", "_law_found"] ["_law_one", "_law_other", "_law_forms", "_law_root"] (defScope (topS 43)) := ⟨rfl, rfl, rfl, by decide +kernel, rfl, by decide +kernel, by decide +kernel⟩
theorem ok_ltwo (F : Fun K "_law_two_right" "_law_two_right" (topS 43) f fd) (bn : Binds K fd ["_law_one", "_law_other", "_law_forms", "_law_root"] []) (fr : Free mg) (T : NTxt K mg CN CF) (G__law_form : GD P w K mg base "_law_form" 4 (spLForm CN)) (G__law_least : GD P w K mg base "_law_least" 3 spLLeast) (G__law_added : GD P w K mg base "_law_added" 4 (spLAdd lAddN)) (G__law_multiplied : GD P w K mg base "_law_multiplied" 4 (spLAdd lMulN))
    (G_add : GB P w K mg base CN .Add 9 (spBin CN addN fun _ _ => True)) (G_sub : GB P w K mg base CN .Sub 9 (spBin CN subN fun _ _ => True)) (G_mul : GB P w K mg base CN .Mult 9 (spBin CN mulN fun _ _ => True)) (M_over : GMe P w K mg base CN "over" 10 (spBin CN overN fun a b => sizeN a b ≠ 0)) (G_eq : GE P w K mg base CN 2 (spEq K CN)) :
    FnG P w K mg base 20 f 4 (spTwo CN) := by
  refine PF.Fun.okG F sc__law_two_right bn (fun cdv A outer s H vs Q hgd hr h => ⟨_, (pss_cons (ps_set (i := 4) sc__law_two_right.nd rfl (by first | exact Or.inl rfl | exact Or.inr rfl) (pe_tup (pa_cons (pe_un un_neg (pe_ix (ix_tup : IxR _ (rIxT K)) (pe_ix (ix_list : IxR _ (rIxL K)) (pv 2) pe_int (fun _ _ => rfl)) pe_int (fun _ _ => rfl))) (pa_cons (pe_un un_neg (pe_ix (ix_tup : IxR _ (rIxT K)) (pe_ix (ix_list : IxR _ (rIxL K)) (pv 2) pe_int (fun _ _ => rfl)) pe_int (fun _ _ => rfl))) (pa_cons (pe_ix (ix_tup : IxR _ (rIxT K)) (pe_ix (ix_list : IxR _ (rIxL K)) (pv 2) pe_int (fun _ _ => rfl)) pe_int (fun _ _ => rfl)) (pa_cons (pe_ix (ix_tup : IxR _ (rIxT K)) (pe_ix (ix_list : IxR _ (rIxL K)) (pv 2) pe_int (fun _ _ => rfl)) pe_int (fun _ _ => rfl)) pa_nil))))))
  (pss_cons (ps_set (i := 5) sc__law_two_right.nd rfl (by first | exact Or.inl rfl | exact Or.inr rfl) (pe_lst (pa_cons (pe_c1 G__law_form (hr.mono (by decide)) (pa_cons (pe_op (op_b G_add (hr.mono (by decide))) (pv 0) (pv 1)) pa_nil)) (pa_cons (pe_c1 G__law_form (hr.mono (by decide)) (pa_cons (pe_op (op_b G_sub (hr.mono (by decide))) (pv 0) (pv 1)) pa_nil)) (pa_cons (pe_c1 G__law_form (hr.mono (by decide)) (pa_cons (pe_op (op_b G_mul (hr.mono (by decide))) (pv 0) (pv 1)) pa_nil)) pa_nil)))))
  (pss_cons (ps_set (i := 6) sc__law_two_right.nd rfl (by first | exact Or.inl rfl | exact Or.inr rfl) (pe_lst (pa_cons (pe_c1 G__law_added (hr.mono (by decide)) (pa_cons (pe_ix (ix_list : IxR _ (rIxL K)) (pv 2) pe_int (fun _ _ => rfl)) (pa_cons (pe_ix (ix_list : IxR _ (rIxL K)) (pv 2) pe_int (fun _ _ => rfl)) (pa_cons (pv 3) pa_nil)))) (pa_cons (pe_c1 G__law_added (hr.mono (by decide)) (pa_cons (pe_ix (ix_list : IxR _ (rIxL K)) (pv 2) pe_int (fun _ _ => rfl)) (pa_cons (pv 4) (pa_cons (pv 3) pa_nil)))) pa_nil))))
  (pss_cons (ps_if (PW.pt (pw_or (pt_cmpR (op_neD (hu64 hr) : OpR _ _ (rNeD K)) (pv 5) (pe_op op_cat (pv 6) (pe_lst (pa_cons (pe_c1 G__law_multiplied (hr.mono (by decide)) (pa_cons (pe_ix (ix_list : IxR _ (rIxL K)) (pv 2) pe_int (fun _ _ => rfl)) (pa_cons (pe_ix (ix_list : IxR _ (rIxL K)) (pv 2) pe_int (fun _ _ => rfl)) (pa_cons (pv 3) pa_nil)))) pa_nil))) (nomark _)) (pw_or1 (pt_cmpR (op_neE G_eq (hr.mono (by decide))) (pe_op (op_b G_add (hr.mono (by decide))) (pe_op (op_b G_sub (hr.mono (by decide))) (pv 0) (pv 1)) (pv 1)) (pv 0) (nomark _))))) (pss_one (ps_ret pe_bl)) pss_nil)
  (pss_cons (ps_if (PW.pt (pw_and (pt_cmpR op_eq (pe_ix (ix_tup : IxR _ (rIxT K)) (pe_ix (ix_list : IxR _ (rIxL K)) (pv 2) pe_int (fun _ _ => rfl)) pe_int (fun _ _ => rfl)) pe_int (nomark _)) (pw_and1 (pt_cmpR op_eq (pe_ix (ix_tup : IxR _ (rIxT K)) (pe_ix (ix_list : IxR _ (rIxL K)) (pv 2) pe_int (fun _ _ => rfl)) pe_int (fun _ _ => rfl)) pe_int (nomark _))))) (pss_one (ps_ret pe_bl)) pss_nil)
  (pss_cons (ps_set (i := 7) sc__law_two_right.nd rfl (by first | exact Or.inl rfl | exact Or.inr rfl) (pe_c1 G__law_form (hr.mono (by decide)) (pa_cons (pe_me T.cN M_over (hr.mono (by decide)) (pv 0) (pa_cons (pv 1) pa_nil)) pa_nil)))
  (pss_cons (ps_if (pt_cmpR op_ne (pe_callB (call_repr hgd (hu100 hr)) (by rfl) fr.b_repr (by decide +kernel) (pa_cons (pe_c1 G__law_least (hr.mono (by decide)) (pa_cons (pe_ix (ix_tup : IxR _ (rIxT K)) (pv 7) pe_int (fun _ _ => rfl)) (pa_cons (pe_ix (ix_tup : IxR _ (rIxT K)) (pv 7) pe_int (fun _ _ => rfl)) (pa_cons (pe_ix (ix_tup : IxR _ (rIxT K)) (pv 7) pe_int (fun _ _ => rfl)) (pa_cons (pe_ix (ix_tup : IxR _ (rIxT K)) (pv 7) pe_int (fun _ _ => rfl)) pa_nil))))) pa_nil)) (pe_callB (call_repr hgd (hu100 hr)) (by rfl) fr.b_repr (by decide +kernel) (pa_cons (pv 7) pa_nil)) (nomark _)) (pss_one (ps_ret pe_bl)) pss_nil)
  (pss_one (ps_ret (pe_cmpR (op_eqD (hu64 hr) : OpR _ _ (rEqD K)) (pe_c1 G__law_multiplied (hr.mono (by decide)) (pa_cons (pv 7) (pa_cons (pe_ix (ix_list : IxR _ (rIxL K)) (pv 2) pe_int (fun _ _ => rfl)) (pa_cons (pv 3) pa_nil)))) (pe_ix (ix_list : IxR _ (rIxL K)) (pv 2) pe_int (fun _ _ => rfl)) (nomark _))))))))))), ?_⟩)
  obtain ⟨x, y, l, va, vb, rs, R, a, b, rfl, hx, hy, hl, ha, hb, hR, ka, kb, ba, bb, q⟩ := h
  have ba4 : B3 1000 a := ba.mono (by decide)
  have bb4 : B3 1000 b := bb.mono (by decide)
  have Ra := ka.rb hR
  have Rb := kb.rb hR
  have b0 : b.b ≠ 0 := kb.rt.b0
  have a0 : a.b ≠ 0 := ka.rt.b0
  have bR := okR_bd hR
  have g0 : ∀ x y z u : V, atI [x, y, z, u] 0 = some x := fun x y z u => atI_nat (j := 0) rfl
  have g1 : ∀ x y z u : V, atI [x, y, z, u] 1 = some y := fun x y z u => atI_nat (j := 1) rfl
  have g2 : ∀ x y z u : V, atI [x, y, z, u] 2 = some z := fun x y z u => atI_nat (j := 2) rfl
  have g3 : ∀ x y z u : V, atI [x, y, z, u] 3 = some u := fun x y z u => atI_nat (j := 3) rfl
  have k0 : ∀ x y : V, atI (x :: y :: rs) 0 = some x := fun x y => atI_nat (j := 0) rfl
  have k1 : ∀ x y : V, atI (x :: y :: rs) 1 = some y := fun x y => atI_nat (j := 1) rfl
  obtain ⟨pa, rfl, ha⟩ := ha
  obtain ⟨pb, rfl, hb⟩ := hb
  refine ⟨_, rfl, l, _, _, _, rfl, rfl, .of hl, k1 _ _, pb, _, _, _, rfl, rfl, .of hb, g0 _ _ _ _, _, rfl, _, rfl, l, _, _, _, rfl, rfl, .of hl, k1 _ _, pb, _, _, _, rfl, rfl, .of hb, g1 _ _ _ _, _, rfl, _, rfl, l, _, _, _, rfl, rfl, .of hl, k1 _ _, pb, _, _, _, rfl, rfl, .of hb, g2 _ _ _ _, _, rfl, l, _, _, _, rfl, rfl, .of hl, k1 _ _, pb, _, _, _, rfl, rfl, .of hb, g3 _ _ _ _, by show 4 ≤ sizeLine; decide, fun ql nl => ?_⟩
  have tl0 : T4 (upd H ql (.tup [.int (-b.t), .int (-b.p), .int b.r, .int b.b])) (.ref ql) (lessN b) := ⟨ql, rfl, upd_same⟩
  have s0 : Same H (upd H ql (.tup [.int (-b.t), .int (-b.p), .int b.r, .int b.b])) := same_upd nl
  generalize upd H ql (.tup [.int (-b.t), .int (-b.p), .int b.r, .int b.b]) = H0 at s0 tl0 ⊢
  refine ⟨_, rfl, _, rfl, bin1 hR ka kb ba4 bb4 (hx.same s0) (.inl (hy.same s0)) trivial fun v1 H1 s1 h1 => ⟨v1, _, rfl, h1, fun w1 H2 s2 t1 => ?_⟩⟩
  have s02 := (s0.trans s1).trans s2
  refine ⟨_, rfl, _, rfl, bin1 hR ka kb ba4 bb4 (hx.same s02) (.inl (hy.same s02)) trivial fun v3 H3 s3 h3 => ⟨v3, _, rfl, h3, fun w3 H4 s4 t3 => ?_⟩⟩
  have s04 := (s02.trans s3).trans s4
  refine ⟨_, rfl, _, rfl, bin1 hR ka kb ba4 bb4 (hx.same s04) (.inl (hy.same s04)) trivial fun v5 H5 s5 h5 => ⟨v5, _, rfl, h5, fun w5 H6 s6 t5 => ⟨by show 3 ≤ sizeLine; decide, fun qt nt => ?_⟩⟩⟩
  have ut : upd H6 qt (.lst [w1, w3, w5]) qt = some (.lst [w1, w3, w5]) := upd_same
  have st : Same H6 (upd H6 qt (.lst [w1, w3, w5])) := same_upd nt
  generalize upd H6 qt (.lst [w1, w3, w5]) = H7 at st ut ⊢
  have s67 := (s5.trans s6).trans st
  have s07 := s04.trans s67
  replace t5 := t5.same st
  replace t3 := t3.same s67
  replace t1 := t1.same ((s3.trans s4).trans s67)
  have tl7 := tl0.same ((s1.trans s2).trans ((s3.trans s4).trans s67))
  have ta7 : T4 H7 (.ref pa) a := ⟨pa, rfl, s07 _ _ ha⟩
  have tb7 : T4 H7 (.ref pb) b := ⟨pb, rfl, s07 _ _ hb⟩
  have hl7 := s07 _ _ hl
  refine ⟨_, rfl, l, _, _, _, rfl, rfl, .of hl7, k0 _ _, _, rfl, l, _, _, _, rfl, rfl, .of hl7, k1 _ _, _, rfl, _, _, _, a, b, rfl, ta7, tb7, ba4.1, ba4.2.1, ba4.2.2, bb4.1, bb4.2.1, bb4.2.2, a0, b0, bR, fun w8 H8 s8 t8 => ?_⟩
  refine ⟨_, rfl, l, _, _, _, rfl, rfl, .of (s8 _ _ hl7), k0 _ _, _, rfl, _, rfl, _, _, _, a, lessN b, rfl, ta7.same s8, tl7.same s8, ba4.1, ba4.2.1, ba4.2.2, bb4.1.neg, bb4.2.1.neg, bb4.2.2, a0, b0, bR, fun w9 H9 s9 t9 => ⟨by show 2 ≤ sizeLine; decide, fun qd nd => ?_⟩⟩
  have ud : upd H9 qd (.lst [w8, w9]) qd = some (.lst [w8, w9]) := upd_same
  have sd : Same H9 (upd H9 qd (.lst [w8, w9])) := same_upd nd
  generalize upd H9 qd (.lst [w8, w9]) = H10 at sd ud ⊢
  have s710 := (s8.trans s9).trans sd
  have hl10 := s710 _ _ hl7
  refine ⟨_, rfl, _, rfl, _, rfl, l, _, _, _, rfl, rfl, .of hl10, k0 _ _, _, rfl, l, _, _, _, rfl, rfl, .of hl10, k1 _ _, _, rfl, _, _, _, a, b, rfl, ta7.same s710, tb7.same s710, ba4.1, ba4.2.1, ba4.2.2, bb4.1, bb4.2.1, bb4.2.2, a0, b0, bR, fun w11 H11 s11 t11 => ⟨by show 1 ≤ sizeLine; decide, fun qm nm => ?_⟩⟩
  have um : upd H11 qm (.lst [w11]) qm = some (.lst [w11]) := upd_same
  have sm : Same H11 (upd H11 qm (.lst [w11])) := same_upd nm
  generalize upd H11 qm (.lst [w11]) = H12 at sm um ⊢
  refine ⟨qd, qm, _, _, rfl, rfl, sm _ _ (s11 _ _ ud), um, by show 3 ≤ sizeLine; decide, fun qc nc => ?_⟩
  have uc : upd H12 qc (.lst ([w8, w9] ++ [w11])) qc = some (.lst [w8, w9, w11]) := upd_same
  have sc : Same H12 (upd H12 qc (.lst ([w8, w9] ++ [w11]))) := same_upd nc
  generalize upd H12 qc (.lst ([w8, w9] ++ [w11])) = H13 at sc uc ⊢
  have s1013 := (s11.trans sm).trans sc
  have s713 := s710.trans s1013
  rw [← ka.ladd kb] at t8
  rw [← ka.less kb] at t9
  rw [← ka.lmul kb] at t11
  refine ⟨.list [d4 (addN a b), d4 (subN a b), d4 (mulN a b)], .list [d4 (addN a b), d4 (subN a b), d4 (mulN a b)],
    .lst (.of (s713 _ _ ut)) (.cons (t1.same s713).dp (.cons (t3.same s713).dp (.cons (t5.same s713).dp .nil))),
    .lst (.of uc) (.cons (t8.same (((s9.trans sd).trans s1013))).dp (.cons (t9.same (sd.trans s1013)).dp (.cons (t11.same (sm.trans sc)).dp .nil))), rfl, rfl, ?_⟩
  rw [show PyData.eqv (.list [d4 (addN a b), d4 (subN a b), d4 (mulN a b)]) (.list [d4 (addN a b), d4 (subN a b), d4 (mulN a b)]) = true from PySem.SeqAt.eqv_refl _ rfl]
  refine ⟨_, rfl, ?_⟩
  have s013 := s07.trans s713
  -- one - other + other
  have bs := (ba.sub bb).mono (show 2 * 101 + 12 ≤ 1000 by decide)
  refine ⟨_, rfl, _, rfl, bin1 hR ka kb ba4 bb4 (hx.same s013) (.inl (hy.same s013)) trivial fun v14 H14 s14 h14 => ⟨_, rfl, ?_⟩⟩
  refine bin1 hR (ka.subk kb) kb bs bb4 h14 (.inl (hy.same (s013.trans s14))) trivial fun v15 H15 s15 h15 => ⟨_, rfl, ?_⟩
  have s015 := (s013.trans s14).trans s15
  refine cmp1 T h15 (hx.same s015) ?_
  rw [ka.back kb, if_pos rfl, decide_eq_true rfl]
  refine ⟨_, rfl, ?_⟩
  have hl15 := s015 _ _ hl
  have hb15 := s015 _ _ hb
  refine ⟨_, rfl, l, _, _, _, rfl, rfl, .of hl15, k1 _ _, pb, _, _, _, rfl, rfl, .of hb15, g0 _ _ _ _, rfl, _, rfl, and_split (C := ¬ (b.t = 0 ∧ b.p = 0)) (fun nz => ?_) (fun z h => z (congrArg V.int h.1)) fun rest z =>
    ⟨_, rfl, l, _, _, _, rfl, rfl, .of hl15, k1 _ _, pb, _, _, _, rfl, rfl, .of hb15, g1 _ _ _ _, rfl, _, rfl, ite_dec (fun z2 => q _ s015) fun z2 => rest fun h => z2 (congrArg V.int h.2)⟩⟩
  have sz := ka.size kb hR nz
  have ko := ka.overk kb sz
  have bo := (ba.over bb Ra Rb).mono (show 3 * 101 + 12 ≤ 1000 by decide)
  refine ⟨_, rfl, (hx.same s015).me ⟨_, rfl, ?_⟩⟩
  dsimp only [tNil]
  refine bin2 hR ka kb ba4 bb4 (hx.same s015) (.inl (hy.same s015)) sz fun v16 H16 s16 h16 => ⟨v16, _, rfl, h16, fun w17 H17 s17 t17 => ?_⟩
  have t17' := t17
  obtain ⟨pf, rfl, hf⟩ := t17
  refine ⟨_, rfl, pf, _, _, _, rfl, rfl, .of hf, g0 _ _ _ _, _, rfl, pf, _, _, _, rfl, rfl, .of hf, g1 _ _ _ _, _, rfl, pf, _, _, _, rfl, rfl, .of hf, g2 _ _ _ _, _, rfl, pf, _, _, _, rfl, rfl, .of hf, g3 _ _ _ _, _, _, _, _, rfl, ko.rt.b0, bo.1.mono (by decide), bo.2.1.mono (by decide), bo.2.2.mono (by decide), fun w18 H18 s18 t18 => ?_⟩
  rw [ko.self] at t18
  dsimp only [tNil]
  refine rd4 t18 bo ((ko.rb hR).mono (by decide)) ⟨_, rfl, ?_⟩
  dsimp only [tNil]
  refine rd4 (t17'.same s18) bo ((ko.rb hR).mono (by decide)) ⟨rfl, _, rfl, ite_ndec (fun c => absurd rfl c) fun _ => ?_⟩
  have s018 := ((s015.trans s16).trans s17).trans s18
  have hl18 := s018 _ _ hl
  have ta18 : T4 H18 (.ref pa) a := ⟨pa, rfl, s018 _ _ ha⟩
  have tb18 : T4 H18 (.ref pb) b := ⟨pb, rfl, s018 _ _ hb⟩
  refine ⟨_, rfl, _, rfl, l, _, _, _, rfl, rfl, .of hl18, k1 _ _, _, rfl, _, _, _, overN a b, b, rfl, t17'.same s18, tb18, bo.1, bo.2.1, bo.2.2, bb4.1, bb4.2.1, bb4.2.2, ko.rt.b0, b0, bR, fun w19 H19 s19 t19 => ?_⟩
  rw [ka.oback kb sz] at t19
  refine ⟨_, rfl, l, _, _, _, rfl, rfl, .of (s19 _ _ hl18), k0 _ _, d4 a, d4 a, t19.dp, (ta18.same s19).dp, rfl, rfl, ?_⟩
  rw [show PyData.eqv (d4 a) (d4 a) = true from PySem.SeqAt.eqv_refl _ rfl]
  exact q _ (s018.trans s19)
theorem sc__law_right : FnScope ["_law_dice_here", "_law_root", "_law_rows", "_law_turn", "_law_numbers", "_law_forms", "_law_row", "_law_at", "_law_one", "_law_other", "_law_third", "_law_whole", "_law_more"] ["_law_dice_here"] (defScope (topS 44)) := ⟨rfl, rfl, rfl, by decide +kernel, rfl, by decide +kernel, by decide +kernel⟩
theorem ok_lright (F : Fun K "_law_right" "_law_right" (topS 44) f fd) (bn : Binds K fd ["_law_dice_here"] []) (fr : Free mg) (T : NTxt K mg CN CF) (G__law_roll : GD P w K mg base "_law_roll" 2 spRoll) (G__law_pick : GD P w K mg base "_law_pick" 3 spPick) (G__law_least : GD P w K mg base "_law_least" 3 spLLeast) (G__law_parts_drawn : GD P w K mg base "_law_parts_drawn" 4 spParts) (G__law_made : GD P w K mg base "_law_made" 8 (spMade CN))
    (G__law_alone_right : GG P w K mg base "_law_alone_right" 20 2 (spAlone CN)) (G__law_two_right : GG P w K mg base "_law_two_right" 20 4 (spTwo CN)) (G_Number : GM P w K mg base "Number" CN 6 [.int 0, .int 0, .int 1] (spNumI CN CF)) (P_mirror : GP P w K mg base CN "mirror" 8 (spUn CN mirN)) (P_norm : GP P w K mg base CN "norm" 8 (spUn CN normN))
    (G_add : GB P w K mg base CN .Add 9 (spBin CN addN fun _ _ => True)) (G_sub : GB P w K mg base CN .Sub 9 (spBin CN subN fun _ _ => True)) (G_mul : GB P w K mg base CN .Mult 9 (spBin CN mulN fun _ _ => True)) (M_over : GMe P w K mg base CN "over" 10 (spBin CN overN fun a b => sizeN a b ≠ 0)) (G_eq : GE P w K mg base CN 2 (spEq K CN)) :
    FnG P w K mg base 21 f 1 spRight := by
  refine PF.Fun.okG F sc__law_right bn (fun cdv A outer s H vs Q hgd hr h => ⟨_, (pss_cons (ps_set (i := 1) sc__law_right.nd rfl (by first | exact Or.inl rfl | exact Or.inr rfl) (pe_c1 G__law_pick (hr.mono (by decide)) (pa_cons (pv 0) (pa_cons (pe_lst (pa_cons pe_int (pa_cons pe_int (pa_cons pe_int (pa_cons pe_int (pa_cons pe_int (pa_cons pe_int (pa_cons pe_int (pa_cons pe_int pa_nil))))))))) pa_nil))))
  (pss_cons (ps_setLc (i := 2) (own := [("_law_turn", 3)]) (by rfl) sc__law_right.nd rfl rfl (sw_true rfl rfl rfl (by decide +kernel)) (pi_range1 (by rfl) fr.b_range (pa_cons pe_int pa_nil)) (blkOk_by (own := [("_law_turn", 3)]) (N := ["_law_dice_here", "_law_root", "_law_rows", "_law_turn", "_law_numbers", "_law_forms", "_law_row", "_law_at", "_law_one", "_law_other", "_law_third", "_law_whole", "_law_more"]) (sc := defScope (topS 44)) (by decide +kernel)) (fun _ _ _ _ _ => (pg_name (i := 3) sc__law_right.nd rfl (by first | exact Or.inl rfl | exact Or.inr rfl))) (fun _ _ _ _ _ => pts_nil) (fun _ _ _ _ _ => (pe_c1 G__law_parts_drawn (hr.mono (by decide)) (pa_cons (pv 0) (pa_cons (pe_c1 G__law_pick (hr.mono (by decide)) (pa_cons (pv 0) (pa_cons (pe_lst (pa_cons (pv 1) (pa_cons (pv 1) (pa_cons pe_int pa_nil)))) pa_nil))) pa_nil)))))
  (pss_cons (ps_asg (pe_tup (pa_cons (pe_lc (own := [("_law_row", 6)]) (by rfl) sc__law_right.nd (pi_list (pv 2)) (blkOk_by (own := [("_law_row", 6)]) (N := ["_law_dice_here", "_law_root", "_law_rows", "_law_turn", "_law_numbers", "_law_forms", "_law_row", "_law_at", "_law_one", "_law_other", "_law_third", "_law_whole", "_law_more"]) (sc := defScope (topS 44)) (by decide +kernel)) (fun _ _ _ _ _ => (pg_name (i := 6) sc__law_right.nd rfl (by first | exact Or.inl rfl | exact Or.inr rfl))) (fun _ _ _ _ _ => pts_nil) (fun _ _ _ _ _ => (pe_c1 G__law_made (hr.mono (by decide)) (pa_cons (pv 6) pa_nil)))) (pa_cons (pe_lc (own := [("_law_row", 6)]) (by rfl) sc__law_right.nd (pi_list (pv 2)) (blkOk_by (own := [("_law_row", 6)]) (N := ["_law_dice_here", "_law_root", "_law_rows", "_law_turn", "_law_numbers", "_law_forms", "_law_row", "_law_at", "_law_one", "_law_other", "_law_third", "_law_whole", "_law_more"]) (sc := defScope (topS 44)) (by decide +kernel)) (fun _ _ _ _ _ => (pg_name (i := 6) sc__law_right.nd rfl (by first | exact Or.inl rfl | exact Or.inr rfl))) (fun _ _ _ _ _ => pts_nil) (fun _ _ _ _ _ => (pe_c1 G__law_least (hr.mono (by decide)) (pa_cons (pe_ix (ix_tup : IxR _ (rIxT K)) (pv 6) pe_int (fun _ _ => rfl)) (pa_cons (pe_ix (ix_tup : IxR _ (rIxT K)) (pv 6) pe_int (fun _ _ => rfl)) (pa_cons (pe_ix (ix_tup : IxR _ (rIxT K)) (pv 6) pe_int (fun _ _ => rfl)) (pa_cons (pe_ix (ix_tup : IxR _ (rIxT K)) (pv 6) pe_int (fun _ _ => rfl)) pa_nil))))))) pa_nil))) (pg_tup (by rfl) (pgs_cons (pg_name (i := 4) sc__law_right.nd rfl (by first | exact Or.inl rfl | exact Or.inr rfl)) (pgs_cons (pg_name (i := 5) sc__law_right.nd rfl (by first | exact Or.inl rfl | exact Or.inr rfl)) pgs_nil))))
  (pss_cons (ps_if (pt_cmpR (op_neD (hu64 hr) : OpR _ _ (rNeD K)) (pe_lc (own := [("_law_at", 7)]) (by rfl) sc__law_right.nd (pi_range1 (by rfl) fr.b_range (pa_cons pe_int pa_nil)) (blkOk_by (own := [("_law_at", 7)]) (N := ["_law_dice_here", "_law_root", "_law_rows", "_law_turn", "_law_numbers", "_law_forms", "_law_row", "_law_at", "_law_one", "_law_other", "_law_third", "_law_whole", "_law_more"]) (sc := defScope (topS 44)) (by decide +kernel)) (fun _ _ _ _ _ => (pg_name (i := 7) sc__law_right.nd rfl (by first | exact Or.inl rfl | exact Or.inr rfl))) (fun _ _ _ _ _ => (pts_one (pt_not (pt_val (pe_gd G__law_alone_right hgd (hr.mono (by decide)) (pa_cons (pe_ix (ix_list : IxR _ (rIxL K)) (pv 4) (pv 7) (fun _ _ => rfl)) (pa_cons (pe_ix (ix_list : IxR _ (rIxL K)) (pv 5) (pv 7) (fun _ _ => rfl)) pa_nil)) (by rfl)))))) (fun _ _ _ _ _ => (pv 7))) (pe_lst pa_nil) (nomark _)) (pss_one (ps_ret pe_bl)) pss_nil)
  (pss_cons (ps_asg (pv 4) (pg_unl (by rfl) (pgs_cons (pg_name (i := 8) sc__law_right.nd rfl (by first | exact Or.inl rfl | exact Or.inr rfl)) (pgs_cons (pg_name (i := 9) sc__law_right.nd rfl (by first | exact Or.inl rfl | exact Or.inr rfl)) (pgs_cons (pg_name (i := 10) sc__law_right.nd rfl (by first | exact Or.inl rfl | exact Or.inr rfl)) pgs_nil)))))
  (pss_cons (ps_if (PW.pt (pw_or (pt_not (pt_val (pe_gd G__law_two_right hgd (hr.mono (by decide)) (pa_cons (pv 8) (pa_cons (pv 9) (pa_cons (pv 5) (pa_cons (pv 1) pa_nil)))) (by rfl)))) (pw_or1 (pt_not (pt_val (pe_gd G__law_two_right hgd (hr.mono (by decide)) (pa_cons (pv 10) (pa_cons (pv 8) (pa_cons (pe_lst (pa_cons (pe_ix (ix_list : IxR _ (rIxL K)) (pv 5) pe_int (fun _ _ => rfl)) (pa_cons (pe_ix (ix_list : IxR _ (rIxL K)) (pv 5) pe_int (fun _ _ => rfl)) pa_nil))) (pa_cons (pv 1) pa_nil)))) (by rfl))))))) (pss_one (ps_ret pe_bl)) pss_nil)
  (pss_cons (ps_set (i := 11) sc__law_right.nd rfl (by first | exact Or.inl rfl | exact Or.inr rfl) (pe_c1 G__law_pick (hr.mono (by decide)) (pa_cons (pv 0) (pa_cons (pe_lst (pa_cons pe_int (pa_cons pe_int (pa_cons (pe_un un_neg pe_int) (pa_cons pe_int (pa_cons (pe_op op_mulX (pe_op op_pow pe_int pe_int) (pe_op op_pow pe_int pe_int)) (pa_cons (pe_op op_sub (pe_un un_neg (pe_op op_pow pe_int pe_int)) pe_int) (pa_cons (pe_op op_sub (pe_c1 G__law_roll (hr.mono (by decide)) (pa_cons (pv 0) (pa_cons pe_int pa_nil))) pe_int) pa_nil)))))))) pa_nil))))
  (pss_cons (ps_set (i := 12) sc__law_right.nd rfl (by first | exact Or.inl rfl | exact Or.inr rfl) (pe_m1 G_Number (hr.mono (by decide)) (pa_cons (pv 11) pa_nil)))
  (pss_cons (ps_if (PW.pt (pw_or (pt_cmpR (op_neE G_eq (hr.mono (by decide))) (pe_op (op_b G_add (hr.mono (by decide))) (pv 8) (pv 11)) (pe_op (op_b G_add (hr.mono (by decide))) (pv 8) (pv 12)) (nomark _)) (pw_or (pt_cmpR (op_neE G_eq (hr.mono (by decide))) (pe_op (op_b G_sub (hr.mono (by decide))) (pv 8) (pv 11)) (pe_op (op_b G_sub (hr.mono (by decide))) (pv 8) (pv 12)) (nomark _)) (pw_or1 (pt_cmpR (op_neE G_eq (hr.mono (by decide))) (pe_op (op_b G_mul (hr.mono (by decide))) (pv 8) (pv 11)) (pe_op (op_b G_mul (hr.mono (by decide))) (pv 8) (pv 12)) (nomark _)))))) (pss_one (ps_ret pe_bl)) pss_nil)
  (pss_cons (ps_if (PW.pt (pw_and (pt_cmpR op_ne (pv 11) pe_int (nomark _)) (pw_and1 (pt_cmpR (op_neE G_eq (hr.mono (by decide))) (pe_me T.cN M_over (hr.mono (by decide)) (pv 8) (pa_cons (pv 11) pa_nil)) (pe_me T.cN M_over (hr.mono (by decide)) (pv 8) (pa_cons (pv 12) pa_nil)) (nomark _))))) (pss_one (ps_ret pe_bl)) pss_nil)
  (pss_cons (ps_if (PW.pt (pw_or (pt_cmpR (op_neE G_eq (hr.mono (by decide))) (pe_op (op_b G_mul (hr.mono (by decide))) (pe_op (op_b G_add (hr.mono (by decide))) (pv 8) (pv 9)) (pv 10)) (pe_op (op_b G_add (hr.mono (by decide))) (pe_op (op_b G_mul (hr.mono (by decide))) (pv 8) (pv 10)) (pe_op (op_b G_mul (hr.mono (by decide))) (pv 9) (pv 10))) (nomark _)) (pw_or1 (pt_cmpR (op_neE G_eq (hr.mono (by decide))) (pe_op (op_b G_mul (hr.mono (by decide))) (pv 8) (pv 9)) (pe_op (op_b G_mul (hr.mono (by decide))) (pv 9) (pv 8)) (nomark _))))) (pss_one (ps_ret pe_bl)) pss_nil)
  (pss_one (ps_ret (pe_and (pe_cmpR (op_eqE G_eq (hr.mono (by decide))) (pe_p1 T.cN P_mirror (hr.mono (by decide)) (pe_op (op_b G_mul (hr.mono (by decide))) (pv 8) (pv 9))) (pe_op (op_b G_mul (hr.mono (by decide))) (pe_p1 T.cN P_mirror (hr.mono (by decide)) (pv 8)) (pe_p1 T.cN P_mirror (hr.mono (by decide)) (pv 9))) (nomark _)) (pe_one (pe_cmpR (op_eqE G_eq (hr.mono (by decide))) (pe_p1 T.cN P_norm (hr.mono (by decide)) (pe_op (op_b G_mul (hr.mono (by decide))) (pv 8) (pv 9))) (pe_op (op_b G_mul (hr.mono (by decide))) (pe_p1 T.cN P_norm (hr.mono (by decide)) (pv 8)) (pe_p1 T.cN P_norm (hr.mono (by decide)) (pv 9))) (nomark _))))))))))))))))), ?_⟩)
  obtain ⟨p, rfl, hd, q⟩ := h
  have hp : ∃ ds, H p = some (.lst ds) := by obtain ⟨_, _, _, h, _⟩ := hd; exact ⟨_, h⟩
  obtain ⟨ds, hp⟩ := hp
  have nep : ∀ {H' : Hp} {c : Nat} {l : Addr}, Dice p H' c → H' l = none → l ≠ p := fun d n z => by
    obtain ⟨_, _, _, h, _⟩ := d
    rw [z, h] at n; cases n
  refine ⟨_, rfl, by show 8 ≤ sizeLine; decide, fun l1 n1 => ?_⟩
  refine ⟨p, l1, _, 0, rfl, hd.same (same_upd n1), by decide, upd_same, nep hd n1, by decide, by decide, fun rv H1 hin s1 d1 => ?_⟩
  obtain ⟨R, rfl, hR⟩ : ∃ R : Int, rv = .int R ∧ okR R := by
    simp only [List.mem_cons, List.mem_nil_iff, or_false] at hin
    unfold okR
    rcases hin with rfl | rfl | rfl | rfl | rfl | rfl | rfl | rfl <;> exact ⟨_, rfl, by omega⟩
  have sB1 : SameB p H H1 := (Same.b (same_upd n1)).trans s1
  -- the rows
  refine ⟨3, rfl, by decide, by decide, fun D1 nD1 => ?_⟩
  have D1p := nep d1 nD1
  refine lc_range (lo := 0) (n := 3) (fun i H' => ∃ vs ns, H' D1 = some (.lst vs) ∧ ns.length = i ∧ All2 (T4 H') vs ns ∧ (∀ n ∈ ns, Row R n) ∧ SameB p H1 H' ∧ Dice p H' (1 + 11 * i)) ?_ ?_ ?_
  · refine ⟨[], [], upd_same, rfl, .nil, fun _ h => (nomatch h), Same.b (same_upd nD1), ?_⟩
    exact d1.same (same_upd nD1)
  · rintro i H' hi ⟨vs, ns, hv, hn, al, rows, sB, dd⟩
    refine ⟨rfl, _, rfl, _, rfl, _, rfl, _, rfl, by show 3 ≤ sizeLine; decide, fun l2 n2 => ?_⟩
    refine ⟨p, l2, _, 1 + 11 * i, rfl, dd.same (same_upd n2), by omega, upd_same, nep dd n2, Nat.zero_lt_succ _, (by decide : 3 ≤ 1000), fun rv H2 hin s2 d2 => ?_⟩
    obtain ⟨r, rfl, hr⟩ : ∃ r : Int, rv = .int r ∧ (r = R ∨ r = 0) := by
      simp only [List.mem_cons, List.mem_nil_iff, or_false] at hin
      rcases hin with rfl | rfl | rfl
      · exact ⟨_, rfl, .inl rfl⟩
      · exact ⟨_, rfl, .inl rfl⟩
      · exact ⟨_, rfl, .inr rfl⟩
    refine ⟨p, r, 1 + 11 * i + 1, rfl, d2, by omega, fun v H3 t q b s3 d3 tt b0 bt bq bb rz => ?_⟩
    have sH3 : SameB p H' H3 := ((Same.b (same_upd n2)).trans s2).trans s3
    have hv3 : H3 D1 = some (.lst vs) := sH3 _ _ D1p hv
    have sU : SameB D1 H3 (upd H3 D1 (.lst (vs ++ [v]))) := (SameB.refl D1 H3).upd
    have dp3 := d3
    obtain ⟨_, _, _, hp3, _⟩ := dp3
    refine ⟨vs, hv3, ?_, vs ++ [v], ns ++ [⟨t, q, r, b⟩], upd_same, by rw [List.length_append, hn]; rfl, ?_, ?_, ?_, ?_⟩
    · rw [al.len, sizeLine_eq]; omega
    · have ddp := dd
      obtain ⟨_, _, _, hp', _⟩ := ddp
      exact All2.snoc (al.imp fun v n g => (g.stab hp' sH3).stab hv3 sU) (tt.stab hv3 sU)
    · intro n hn
      rcases List.mem_append.mp hn with hn | hn
      · exact rows n hn
      · obtain rfl := List.mem_singleton.mp hn
        exact ⟨b0, hr, rz, bt, bq, bb⟩
    · intro b o ne e
      rw [upd_ne (ne_of_none e nD1)]
      exact sH3 _ _ ne (sB _ _ ne e)
    · obtain ⟨x0, x1, x2, h, rest⟩ := d3
      exact ⟨x0, x1, x2, by rw [upd_ne (Ne.symm D1p)]; exact h, rest.1, rest.2.1, rest.2.2.1, rest.2.2.2.1, by omega⟩
  rintro H2 ⟨vs, ns, hv, hn, al, rows, sB2, d2⟩
  match ns, hn with
  | [m1, m2, m3], _ =>
  obtain ⟨w1, w2, w3, rfl, t1, t2, t3⟩ : ∃ w1 w2 w3, vs = [w1, w2, w3] ∧ T4 H2 w1 m1 ∧ T4 H2 w2 m2 ∧ T4 H2 w3 m3 := by
    cases al with
    | cons a1 al => cases al with
      | cons a2 al => cases al with
        | cons a3 al => cases al with
          | nil => exact ⟨_, _, _, rfl, a1, a2, a3⟩
  have o1 := rows m1 (by simp)
  have o2 := rows m2 (by simp)
  have o3 := rows m3 (by simp)
  have pick3 : ∀ {k : Nat} {x : V} {n : Nm}, [w1, w2, w3][k]? = some x → [m1, m2, m3][k]? = some n → T4 H2 x n ∧ Row R n := fun {k x n} h1 h2 => by
    match k with
    | 0 => cases h1; cases h2; exact ⟨t1, o1⟩
    | 1 => cases h1; cases h2; exact ⟨t2, o2⟩
    | 2 => cases h1; cases h2; exact ⟨t3, o3⟩
    | _ + 3 => cases h1
  -- the numbers
  refine ⟨_, rfl, D1, rfl, ⟨_, .of hv⟩, fun D2 nD2 => ?_⟩
  refine lc_map (G := fun H' v n => At4 CN H' v (nrmN n)) [m1, m2, m3] hv rfl (by decide : 3 ≤ 1000) nD2 (fun _ _ _ _ _ h g s => g.stab h s) (fun k x n H' h1 h2 s Q2 hQ => ?_) ?_
  · obtain ⟨tx, ox⟩ := pick3 h1 h2
    exact ⟨_, rfl, x, n, rfl, tx.same s, ox.b0, ox.ok hR, ox.b3.2.2.mono (by decide), hQ⟩
  intro H3 zs s3 hz al3
  obtain ⟨z1, z2, z3, rfl, x1, x2, x3⟩ : ∃ w1 w2 w3, zs = [w1, w2, w3] ∧ At4 CN H3 w1 (nrmN m1) ∧ At4 CN H3 w2 (nrmN m2) ∧ At4 CN H3 w3 (nrmN m3) := by
    cases al3 with
    | cons a1 al => cases al with
      | cons a2 al => cases al with
        | cons a3 al => cases al with
          | nil => exact ⟨_, _, _, rfl, a1, a2, a3⟩
  have g0 : ∀ x y z u : V, atI [x, y, z, u] 0 = some x := fun x y z u => atI_nat (j := 0) rfl
  have g1 : ∀ x y z u : V, atI [x, y, z, u] 1 = some y := fun x y z u => atI_nat (j := 1) rfl
  have g2 : ∀ x y z u : V, atI [x, y, z, u] 2 = some z := fun x y z u => atI_nat (j := 2) rfl
  have g3 : ∀ x y z u : V, atI [x, y, z, u] 3 = some u := fun x y z u => atI_nat (j := 3) rfl
  -- the forms
  refine ⟨_, rfl, D1, rfl, ⟨_, .of (s3 _ _ hv)⟩, fun D3 nD3 => ?_⟩
  refine lc_map (G := fun H' v n => T4 H' v (nrmN n)) [m1, m2, m3] (s3 _ _ hv) rfl (by decide : 3 ≤ 1000) nD3 (fun _ _ _ _ _ h g s => g.stab h s) (fun k x n H' h1 h2 s Q2 hQ => ?_) ?_
  · obtain ⟨⟨ax, rfl, tx⟩, ox⟩ := pick3 h1 h2
    have tx' := s _ _ (s3 _ _ tx)
    exact ⟨_, rfl, ax, _, _, _, rfl, rfl, .of tx', g0 _ _ _ _, _, rfl, ax, _, _, _, rfl, rfl, .of tx', g1 _ _ _ _, _, rfl, ax, _, _, _, rfl, rfl, .of tx', g2 _ _ _ _, _, rfl, ax, _, _, _, rfl, rfl, .of tx', g3 _ _ _ _, _, _, _, _, rfl, ox.b0, ox.b3.1.mono (by decide), ox.b3.2.1.mono (by decide), ox.b3.2.2.mono (by decide), hQ⟩
  intro H4 ys s4 hy al4
  obtain ⟨y1, y2, y3, rfl, f1, f2, f3⟩ : ∃ w1 w2 w3, ys = [w1, w2, w3] ∧ T4 H4 w1 (nrmN m1) ∧ T4 H4 w2 (nrmN m2) ∧ T4 H4 w3 (nrmN m3) := by
    cases al4 with
    | cons a1 al => cases al with
      | cons a2 al => cases al with
        | cons a3 al => cases al with
          | nil => exact ⟨_, _, _, rfl, a1, a2, a3⟩
  replace x1 := x1.same s4
  replace x2 := x2.same s4
  replace x3 := x3.same s4
  replace hz := s4 _ _ hz
  have k1 := o1.okn
  have k2 := o2.okn
  have k3 := o3.okn
  have b1 := o1.nb3
  have b2 := o2.nb3
  have b3 := o3.nb3
  generalize nrmN m1 = a1 at *
  generalize nrmN m2 = a2 at *
  generalize nrmN m3 = a3 at *
  have d4 : Dice p H4 40 := ((d2.same s3).same s4).mono (by decide)
  have sB4 : SameB p H H4 := (sB1.trans sB2).trans ((Same.b s3).trans (Same.b s4))
  clear al al3 al4 pick3 rows t1 t2 t3 o1 o2 o3 hv
  refine ⟨by show 2 ≤ sizeLine; decide, fun q5 n5 => ⟨q5, _, rfl, .of upd_same, rfl, _, _, rfl, _, _, rfl, rfl, ?_⟩⟩
  have s5 : Same H4 (upd H4 q5 (.tup [.ref D2, .ref D3])) := same_upd n5
  generalize upd H4 q5 (.tup [.ref D2, .ref D3]) = H5 at s5 ⊢
  replace x1 := x1.same s5
  replace x2 := x2.same s5
  replace x3 := x3.same s5
  replace f1 := f1.same s5
  replace f2 := f2.same s5
  replace f3 := f3.same s5
  replace hz := s5 _ _ hz
  replace hy := s5 _ _ hy
  replace d4 := d4.same s5
  replace sB4 := sB4.trans (Same.b s5)
  clear s5 n5
  -- each alone
  refine ⟨3, rfl, by decide, by decide, fun D4 nD4 => ?_⟩
  refine lc_range (lo := 0) (n := 3) (fun i H' => H' D4 = some (.lst []) ∧ Same H5 H') ⟨upd_same, same_upd nD4⟩ ?_ ?_
  · rintro i H' hi ⟨hv', s⟩
    obtain ⟨z, y, a, iz, iy, az, ty, kk, bb⟩ : ∃ z y a, atI [z1, z2, z3] (0 + (i : Int)) = some z ∧ atI [y1, y2, y3] (0 + (i : Int)) = some y ∧ At4 CN H' z a ∧ T4 H' y a ∧ Okn R a ∧ B3 101 a := by
      match i, hi with
      | 0, _ => exact ⟨_, _, _, rfl, rfl, x1.same s, f1.same s, k1, b1⟩
      | 1, _ => exact ⟨_, _, _, rfl, rfl, x2.same s, f2.same s, k2, b2⟩
      | 2, _ => exact ⟨_, _, _, rfl, rfl, x3.same s, f3.same s, k3, b3⟩
    exact ⟨rfl, _, rfl, _, rfl, D2, _, _, _, rfl, rfl, .of (s _ _ hz), iz, _, rfl, _, rfl, D3, _, _, _, rfl, rfl, .of (s _ _ hy), iy, rfl, z, y, R, a, rfl, az, ty, hR, kk, bb, fun H'' s' => ⟨_, rfl, s' _ _ hv', s.trans s'⟩⟩
  rintro H6 ⟨hv6, s6⟩
  refine ⟨by show 0 ≤ sizeLine; decide, fun q7 n7 => ⟨.list [], .list [], .lst (.of (same_upd n7 _ _ hv6)) .nil, .lst (.of upd_same) .nil, rfl, rfl, _, rfl, ?_⟩⟩
  have s7 : Same H5 (upd H6 q7 (.lst [])) := s6.trans (same_upd n7)
  generalize upd H6 q7 (.lst []) = H7 at s7 ⊢
  replace x1 := x1.same s7
  replace x2 := x2.same s7
  replace x3 := x3.same s7
  replace f1 := f1.same s7
  replace f2 := f2.same s7
  replace f3 := f3.same s7
  replace hz := s7 _ _ hz
  replace hy := s7 _ _ hy
  replace d4 := d4.same s7
  replace sB4 := sB4.trans (Same.b s7)
  clear s7 s6 n7 hv6
  refine ⟨_, rfl, D2, _, rfl, .of hz, rfl, _, _, rfl, _, _, rfl, _, _, rfl, rfl, ?_⟩
  -- two by two
  refine ⟨_, rfl, _, rfl, _, rfl, _, rfl, rfl, z1, z2, D3, y1, y2, [y3], R, a1, a2, rfl, x1, x2, hy, f1, f2, hR, k1, k2, b1, b2, fun H8 s8 => ⟨_, rfl, ?_⟩⟩
  have hy8 := s8 _ _ hy
  refine ⟨_, rfl, _, rfl, _, rfl, D3, _, _, _, rfl, rfl, .of hy8, atI_nat (j := 2) rfl, _, rfl, D3, _, _, _, rfl, rfl, .of hy8, atI_nat (j := 0) rfl, by show 2 ≤ sizeLine; decide, fun q9 n9 => ?_⟩
  have s9 := same_upd (o := .lst [y3, y1]) n9
  refine ⟨_, rfl, rfl, z3, z1, q9, y3, y1, [], R, a3, a1, rfl, (x3.same s8).same s9, (x1.same s8).same s9, upd_same, (f3.same s8).same s9, (f1.same s8).same s9, hR, k3, k1, b3, b1, fun H10 s10 => ⟨_, rfl, ?_⟩⟩
  replace s10 := (s8.trans s9).trans s10
  replace x1 := x1.same s10
  replace x2 := x2.same s10
  replace x3 := x3.same s10
  replace d4 := d4.same s10
  replace sB4 := sB4.trans (Same.b s10)
  clear s10 s9 s8 f1 f2 f3 hz hy
  -- a whole number
  have m1 : Bd 200 ((10 : Int) ^ 60) := bd_le (10 ^ 60) (by decide) (by decide)
  have m2 : Bd 31 ((10 : Int) ^ 9) := bd_le (10 ^ 9) (by decide) (by decide)
  refine ⟨_, rfl, _, rfl, _, _, rfl, rfl, ⟨by decide, by decide, by decide⟩, _, _, rfl, rfl, ⟨by decide, by decide, by decide⟩, _, _, rfl, rfl, m1.mulx m2 (by decide), _, _, rfl, rfl, ⟨by decide, by decide, by decide⟩, _, rfl, _, _, rfl, rfl, _, rfl, p, 1000, 40, rfl, d4, by decide, by decide, bd_sm (by decide) (by decide), fun r11 H11 r110 r111 s11 d11 =>
    ⟨_, _, rfl, rfl, by show 7 ≤ sizeLine; decide, fun l12 n12 => ?_⟩⟩
  refine ⟨p, l12, _, 41, rfl, d11.same (same_upd n12), by decide, upd_same, nep d11 n12, Nat.zero_lt_succ _, (by decide : 7 ≤ 1000), fun wv H13 hin s13 d13 => ?_⟩
  obtain ⟨w, rfl, bw⟩ : ∃ w : Int, wv = .int w ∧ Bd 240 w := by
    simp only [List.mem_cons, List.mem_nil_iff, or_false] at hin
    rcases hin with rfl | rfl | rfl | rfl | rfl | rfl | rfl
    · exact ⟨_, rfl, bd_sm (by decide) (by decide)⟩
    · exact ⟨_, rfl, bd_sm (by decide) (by decide)⟩
    · exact ⟨_, rfl, bd_sm (by decide) (by decide)⟩
    · exact ⟨_, rfl, bd_sm (by decide) (by decide)⟩
    · exact ⟨_, rfl, (m1.mul m2).mono (by decide)⟩
    · exact ⟨_, rfl, bd_le (10 ^ 61 + 1) (by decide) (by decide)⟩
    · exact ⟨_, rfl, bd_sm (by omega) (by decide)⟩
  have sA : SameB p H10 H13 := (s11.trans (Same.b (same_upd n12))).trans s13
  obtain ⟨_, _, _, hp4, _⟩ := d4
  replace x1 := x1.stab hp4 sA
  replace x2 := x2.stab hp4 sA
  replace x3 := x3.stab hp4 sA
  replace sB4 := sB4.trans sA
  clear sA hp4 s13 s11 n12
  have kw : Okn R (mkNm w 0 0 1) := Okn.mk' (by decide) (fun z => absurd rfl z) fun _ => rfl
  have b4w : B3 1000 (mkNm w 0 0 1) := mk_bd (bw.mono (by decide)) (bd_sm (by decide) (by decide)) (bd_sm (by decide) (by decide))
  have nw : mkNm w 0 0 1 = ⟨w, 0, 0, 1⟩ := mk_int_bd w
  refine ⟨_, rfl, ?_⟩
  dsimp only [tNil]
  refine num_made2 (vs := [.int w, .int 0, .int 0, .int 1]) (.inr ⟨w, 0, 0, 1, rfl, by decide, .inl ⟨rfl, rfl⟩, bd_sm (by decide) (by decide), rfl⟩) fun v14 H14 s14 h14 => ?_
  have iw : ∀ H', NI CN H' (.int w) (mkNm w 0 0 1) := fun H' => .inr ⟨w, rfl, rfl⟩
  generalize mkNm w 0 0 1 = W at *
  have c1 : B3 1000 a1 := b1.mono (by decide)
  have c2 : B3 1000 a2 := b2.mono (by decide)
  have c3 : B3 1000 a3 := b3.mono (by decide)
  replace x1 := x1.same s14
  replace x2 := x2.same s14
  replace x3 := x3.same s14
  replace sB4 := sB4.trans (Same.b s14)
  clear s14
  refine ⟨_, rfl, _, rfl, bin1 hR k1 kw c1 b4w x1 (iw _) trivial fun v15 H15 s15 h15 => ?_⟩
  refine ⟨_, rfl, _, rfl, bin1 hR k1 kw c1 b4w (x1.same s15) (.inl (h14.same s15)) trivial fun v16 H16 s16 h16 => ?_⟩
  refine cmp1 T (h15.same s16) h16 ?_
  rw [if_pos rfl, decide_eq_true rfl]
  refine ⟨_, rfl, ?_⟩
  replace s16 := s15.trans s16
  replace x1 := x1.same s16
  replace x2 := x2.same s16
  replace x3 := x3.same s16
  replace h14 := h14.same s16
  replace sB4 := sB4.trans (Same.b s16)
  clear s16 s15 h15 h16
  refine ⟨_, rfl, _, rfl, bin1 hR k1 kw c1 b4w x1 (iw _) trivial fun v17 H17 s17 h17 => ?_⟩
  refine ⟨_, rfl, _, rfl, bin1 hR k1 kw c1 b4w (x1.same s17) (.inl (h14.same s17)) trivial fun v18 H18 s18 h18 => ?_⟩
  refine cmp1 T (h17.same s18) h18 ?_
  rw [if_pos rfl, decide_eq_true rfl]
  refine ⟨_, rfl, ?_⟩
  replace s18 := s17.trans s18
  replace x1 := x1.same s18
  replace x2 := x2.same s18
  replace x3 := x3.same s18
  replace h14 := h14.same s18
  replace sB4 := sB4.trans (Same.b s18)
  clear s18 s17 h17 h18
  refine ⟨_, rfl, _, rfl, bin1 hR k1 kw c1 b4w x1 (iw _) trivial fun v19 H19 s19 h19 => ?_⟩
  refine ⟨_, rfl, _, rfl, bin1 hR k1 kw c1 b4w (x1.same s19) (.inl (h14.same s19)) trivial fun v20 H20 s20 h20 => ?_⟩
  refine cmp1 T (h19.same s20) h20 ?_
  rw [if_pos rfl, decide_eq_true rfl]
  refine ⟨_, rfl, ?_⟩
  replace s20 := s19.trans s20
  replace x1 := x1.same s20
  replace x2 := x2.same s20
  replace x3 := x3.same s20
  replace h14 := h14.same s20
  replace sB4 := sB4.trans (Same.b s20)
  clear s20 s19 h19 h20
  -- divided
  refine ⟨_, rfl, rfl, _, rfl, and_splitH (fun H' s => ?_) fun rest w0 => ?_⟩
  rotate_left
  · have sz : sizeN a1 W ≠ 0 := k1.size kw hR (by rw [nw]; exact fun z => w0 (congrArg V.int z.1))
    refine ⟨_, rfl, x1.me ⟨_, rfl, ?_⟩⟩
    dsimp only [tNil]
    refine bin2 hR k1 kw c1 b4w x1 (iw _) sz fun v21 H21 s21 h21 => ⟨_, rfl, (x1.same s21).me ⟨_, rfl, ?_⟩⟩
    dsimp only [tNil]
    refine bin2 hR k1 kw c1 b4w (x1.same s21) (.inl (h14.same s21)) sz fun v22 H22 s22 h22 => ?_
    refine cmp1 T (h21.same s22) h22 ?_
    rw [if_pos rfl, decide_eq_true rfl]
    exact ⟨_, rfl, rest _ (s21.trans s22)⟩
  replace x1 := x1.same s
  replace x2 := x2.same s
  replace x3 := x3.same s
  replace sB4 := sB4.trans (Same.b s)
  clear s h14 kw b4w nw iw
  generalize H' = H0 at *
  have e12 := (b1.add b2).mono (show 2 * 101 + 12 ≤ 1000 by decide)
  have r1 := k1.rb hR
  have r2 := k2.rb hR
  have r3 := k3.rb hR
  have m13 := (b1.mul b3 r1 r3).mono (show 2 * 101 + 12 ≤ 1000 by decide)
  have m23 := (b2.mul b3 r2 r3).mono (show 2 * 101 + 12 ≤ 1000 by decide)
  have m12 := (b1.mul b2 r1 r2).mono (show 2 * 101 + 12 ≤ 1000 by decide)
  refine ⟨_, rfl, _, rfl, bin1 hR k1 k2 c1 c2 x1 (.inl x2) trivial fun v31 H31 s31 h31 => ⟨_, rfl, ?_⟩⟩
  refine bin1 hR (k1.addk k2) k3 e12 c3 h31 (.inl (x3.same s31)) trivial fun v32 H32 s32 h32 => ?_
  have t2 := s31.trans s32
  refine ⟨_, rfl, _, rfl, bin1 hR k1 k3 c1 c3 (x1.same t2) (.inl (x3.same t2)) trivial fun v33 H33 s33 h33 => ?_⟩
  have t3 := t2.trans s33
  refine ⟨_, rfl, _, rfl, bin1 hR k2 k3 c2 c3 (x2.same t3) (.inl (x3.same t3)) trivial fun v34 H34 s34 h34 => ?_⟩
  refine bin1 hR (k1.mulk k3) (k2.mulk k3) m13 m23 (h33.same s34) (.inl h34) trivial fun v35 H35 s35 h35 => ?_
  refine cmp1 T (h32.same ((s33.trans s34).trans s35)) h35 ?_
  rw [if_pos rfl, k1.dist k2 k3, decide_eq_true rfl]
  refine ⟨_, rfl, ?_⟩
  have t5 := (t3.trans s34).trans s35
  refine ⟨_, rfl, _, rfl, bin1 hR k1 k2 c1 c2 (x1.same t5) (.inl (x2.same t5)) trivial fun v36 H36 s36 h36 => ?_⟩
  have t6 := t5.trans s36
  refine ⟨_, rfl, _, rfl, bin1 hR k2 k1 c2 c1 (x2.same t6) (.inl (x1.same t6)) trivial fun v37 H37 s37 h37 => ?_⟩
  refine cmp1 T (h36.same s37) h37 ?_
  rw [if_pos rfl, k1.comm k2, decide_eq_true rfl]
  refine ⟨_, rfl, ?_⟩
  have t7 := t6.trans s37
  -- mirror and norm of a product
  refine ⟨_, rfl, _, rfl, bin1 hR k1 k2 c1 c2 (x1.same t7) (.inl (x2.same t7)) trivial fun v41 H41 s41 h41 => ?_⟩
  refine h41.sl (un1 hR (k1.mulk k2) m12 h41 fun v42 H42 s42 h42 => ?_)
  have t42 := (t7.trans s41).trans s42
  refine ⟨_, rfl, (x1.same t42).sl (un1 hR k1 c1 (x1.same t42) fun v43 H43 s43 h43 => ?_)⟩
  have t43 := t42.trans s43
  refine ⟨_, rfl, (x2.same t43).sl (un1 hR k2 c2 (x2.same t43) fun v44 H44 s44 h44 => ?_)⟩
  refine bin1 hR k1.mirk k2.mirk (b1.mir.mono (by decide)) (b2.mir.mono (by decide)) (h43.same s44) (.inl h44) trivial fun v45 H45 s45 h45 => ?_
  refine cmp1 T (h42.same ((s43.trans s44).trans s45)) h45 ?_
  rw [if_neg Bool.false_ne_true, k1.mirm k2, decide_eq_true rfl]
  have t45 := (t43.trans s44).trans s45
  refine ⟨_, rfl, ?_⟩
  refine ⟨_, rfl, _, rfl, bin1 hR k1 k2 c1 c2 (x1.same t45) (.inl (x2.same t45)) trivial fun v51 H51 s51 h51 => ?_⟩
  refine h51.sl (un1 hR (k1.mulk k2) m12 h51 fun v52 H52 s52 h52 => ?_)
  have t52 := (t45.trans s51).trans s52
  refine ⟨_, rfl, (x1.same t52).sl (un1 hR k1 c1 (x1.same t52) fun v53 H53 s53 h53 => ?_)⟩
  have t53 := t52.trans s53
  refine ⟨_, rfl, (x2.same t53).sl (un1 hR k2 c2 (x2.same t53) fun v54 H54 s54 h54 => ?_)⟩
  refine bin1 (R := 0) (.inl rfl) k1.normk k2.normk ((b1.norm r1).mono (by decide)) ((b2.norm r2).mono (by decide)) (h53.same s54) (.inl h54) trivial fun v55 H55 s55 h55 => ?_
  refine cmp1 T (h52.same ((s53.trans s54).trans s55)) h55 ?_
  rw [if_neg Bool.false_ne_true, k1.normm k2, decide_eq_true rfl]
  exact q _ (sB4.trans (Same.b ((t53.trans s54).trans s55)))
end
end PF

set_option Elab.async false
set_option linter.all false
set_option maxRecDepth 100000
set_option maxHeartbeats 4000000
set_option exponentiation.threshold 20000
namespace PF
open PySem PySem.Spec PyProof.Rows L2 SlX
theorem gold_made {CN CF : Addr} {m : Nat} {σ : L2.St} {H : Hp} {Q : VK} (hm : 2 = m) (q : ∀ v H', Same H H' → At4 CN H' v (mkNm 1 1 5 2) → Q v H') :
    tMakeN CN 2 m (spNumI CN CF) (fun vs zs => vs ++ zs) E0 (tCons (tC (V.int 1)) (tCons (tC (V.int 1)) tNil)) (tCons (tC (V.int 5)) (tCons (tC (V.int 2)) tNil)) σ H Q :=
  ⟨rfl, hm, num_made (.inr ⟨1, 1, 5, 2, rfl, by decide, .inr (by decide +kernel), bd_sm (by decide) (by decide), rfl⟩) q⟩
theorem one_made {CN CF : Addr} {σ : L2.St} {H : Hp} {Q : VK} (q : ∀ v H', Same H H' → At4 CN H' v (mkNm 1 0 0 1) → Q v H') : tMake CN (spNumI CN CF) [V.int 0, V.int 0, V.int 1] E0 (tCons (tC (V.int 1)) tNil) σ H Q :=
  num_made (.inr ⟨1, 0, 0, 1, rfl, by decide, .inl ⟨rfl, rfl⟩, bd_sm (by decide) (by decide), rfl⟩) q
theorem int01 {CN : Addr} {H : Hp} {x : V} {a : Nm} {Q : VK} {g : Nm → Int} (hx : At4 CN H x a) (q : Q (.int (g a)) H) : spInt0 CN g [x] H Q E0 := ⟨x, a, rfl, hx, q⟩
section
variable {P : Program} {w : World} {K : PySem.W.Frag} {mg : Str → Option Value} {base : Heap} {f CN CF : Addr} {fd : FuncData}
theorem sc_law : FnScope ["_law_script", "_law_spot", "_law_golden"] ["_law_script"] (defScope (topS 45)) := ⟨rfl, rfl, rfl, by decide +kernel, rfl, by decide +kernel, by decide +kernel⟩
theorem ok_law (F : Fun K "law" "law" (topS 45) f fd) (bn : Binds K fd ["_law_script"] []) (fr : Free mg) (T : NTxt K mg CN CF) (G__law_dice : GD P w K mg base "_law_dice" 2 (spDice K)) (G__law_right : GG P w K mg base "_law_right" 21 1 spRight) (G_Number : GM P w K mg base "Number" CN 6 [.int 0, .int 0, .int 1] (spNumI CN CF)) (G_NumberK : GMK P w K mg base "Number" CN 6 2 ["root", "bottom"] (spNumI CN CF)) (P_root : GP P w K mg base CN "root" 2 (spInt0 CN fun n => n.r))
    (G_add : GB P w K mg base CN .Add 9 (spBin CN addN fun _ _ => True)) (G_sub : GB P w K mg base CN .Sub 9 (spBin CN subN fun _ _ => True)) (G_mul : GB P w K mg base CN .Mult 9 (spBin CN mulN fun _ _ => True)) (M_over : GMe P w K mg base CN "over" 10 (spBin CN overN fun a b => sizeN a b ≠ 0)) (G_eq : GE P w K mg base CN 2 (spEq K CN)) :
    FnG P w K mg base 22 f 1 (spLaw K) := by
  refine PF.Fun.okG F sc_law bn (fun cdv A outer s H vs Q hgd hr h => ⟨_, (pss_cons (ps_for PassesOwn.never rfl (pi_range1 (by rfl) fr.b_range (pa_cons (pe_callB (call_max2 rfl) (by rfl) fr.b_max (by decide +kernel) (pa_cons pe_int (pa_cons (pe_callB (call_min2 rfl) (by rfl) fr.b_min (by decide +kernel) (pa_cons pe_int (pa_cons (pe_callB call_len (by rfl) fr.b_len (by decide +kernel) (pa_cons (pv 0) pa_nil)) pa_nil))) pa_nil))) pa_nil)) (pg_name (i := 1) sc_law.nd rfl (by first | exact Or.inl rfl | exact Or.inr rfl)) (pss_one (ps_if (pt_not (pt_val (pe_gd G__law_right hgd (hr.mono (by decide)) (pa_cons (pe_c1 G__law_dice (hr.mono (by decide)) (pa_cons (pv 0) (pa_cons (pv 1) pa_nil))) pa_nil) (by rfl)))) (pss_one (ps_ret pe_bl)) pss_nil)))
  (pss_cons (ps_set (i := 2) sc_law.nd rfl (by first | exact Or.inl rfl | exact Or.inr rfl) (pe_mk G_NumberK (hr.mono (by decide)) (pa_cons pe_int (pa_cons pe_int pa_nil)) (pk_cons pe_int (pk_cons pe_int pk_nil))))
  (pss_one (ps_ret (pe_and (pe_cmpR (op_eqE G_eq (hr.mono (by decide))) (pe_op (op_b G_mul (hr.mono (by decide))) (pv 2) (pv 2)) (pe_op (op_b G_add (hr.mono (by decide))) (pv 2) pe_int) (nomark _)) (pe_and (pe_cmpR (op_eqE G_eq (hr.mono (by decide))) (pe_me T.cN M_over (hr.mono (by decide)) (pv 2) (pa_cons (pv 2) pa_nil)) (pe_m1 G_Number (hr.mono (by decide)) (pa_cons pe_int pa_nil)) (nomark _)) (pe_one (pe_cmpR op_eq (pe_p1 T.cN P_root (hr.mono (by decide)) (pe_op (op_b G_sub (hr.mono (by decide))) (pv 2) (pv 2))) pe_int (nomark _))))))))), ?_⟩)
  obtain ⟨a, ns, rfl, hS, hl, q⟩ := h
  have kG : Okn 5 ⟨1, 1, 5, 2⟩ := ⟨⟨by decide, by decide, fun z => absurd z (by decide)⟩, fun _ => rfl, fun z => absurd z (by decide)⟩
  have bG : B3 1000 ⟨1, 1, 5, 2⟩ := ⟨bd_sm (by decide) (by decide), bd_sm (by decide) (by decide), bd_sm (by decide) (by decide)⟩
  have h5 : okR 5 := by unfold okR; omega
  have k1 : Okn 5 (mkNm 1 0 0 1) := Okn.mk' (by decide) (fun z => absurd rfl z) fun _ => rfl
  have b1 : B3 1000 (mkNm 1 0 0 1) := mk_bd (bd_sm (by decide) (by decide)) (bd_sm (by decide) (by decide)) (bd_sm (by decide) (by decide))
  have i1 : ∀ H', NI CN H' (.int 1) (mkNm 1 0 0 1) := fun H' => .inr ⟨1, rfl, rfl⟩
  have sqb : ∀ {H' H2 H3 : Hp} {p : Addr}, SqL K H' a (ns.map V.int) → H' p = none → Same H' H2 → SameB p H2 H3 → SqL K H3 a (ns.map V.int) := fun {H' H2 H3 p} h n s2 s3 => by
    rcases h with h | h
    · rcases h with h | ⟨o, h⟩
      · exact .inl (.inl (s3 _ _ (ne_of_none h n) (s2 _ _ h)))
      · exact .inl (.inr ⟨o, s3 _ _ (ne_of_none h n) (s2 _ _ h)⟩)
    · exact .inr h
  have ln : (ns.map V.int).length = ns.length := List.length_map _
  refine ⟨_, rfl, _, (ns.map V.int).length, rfl, .inl ⟨_, hS, rfl⟩, _, _, rfl, _, _, rfl, _, rfl, ?_, ?_, ?_⟩
  · split <;> omega
  · have : (2 : Int) ^ 62 = 4611686018427387904 := by decide
    split
    · split <;> omega
    · omega
  generalize hj : (if (if ((ns.map V.int).length : Int) < 5 then ((ns.map V.int).length : Int) else 5) > 1 then (if ((ns.map V.int).length : Int) < 5 then ((ns.map V.int).length : Int) else 5) else 1) = j
  have j5 : j ≤ 5 := by
    rw [← hj]
    split
    · split <;> omega
    · omega
  refine for_range (lo := 0) (fun i σ H' => ∃ o2 o3, σ = [some (.ref a), o2, o3] ∧ SqL K H' a (ns.map V.int)) ⟨none, none, rfl, hS⟩ ?_ ?_
  · rintro i _ H' hi ⟨o2, o3, rfl, hS'⟩
    exact ⟨_, rfl, _, rfl, a, ns, 0 + (i : Int), rfl, hS', hl, by omega, by omega, fun p H2 s2 np dd => ⟨rfl, p, rfl, dd, fun H3 s3 => ⟨_, rfl, _, _, rfl, sqb hS' np s2 s3⟩⟩⟩
  rintro _ H1 ⟨o2, o3, rfl, _⟩
  -- the golden number
  dsimp only [tSeq, tAsg]
  refine gold_made rfl fun x H2 s2 hx => ?_
  rw [show mkNm 1 1 5 2 = ⟨1, 1, 5, 2⟩ from by decide +kernel] at hx
  refine ⟨_, rfl, _, rfl, bin1 h5 kG kG bG bG hx (.inl hx) trivial fun v3 H3 s3 h3 => ?_⟩
  refine ⟨_, rfl, bin1 h5 kG k1 bG b1 (hx.same s3) (i1 _) trivial fun v4 H4 s4 h4 => ?_⟩
  refine cmp1 T (h3.same s4) h4 ?_
  rw [if_neg Bool.false_ne_true, show decide (mulN ⟨1, 1, 5, 2⟩ ⟨1, 1, 5, 2⟩ = addN ⟨1, 1, 5, 2⟩ (mkNm 1 0 0 1)) = true from by decide +kernel]
  refine ⟨_, rfl, ?_⟩
  have t4 := s3.trans s4
  have sz : sizeN ⟨1, 1, 5, 2⟩ ⟨1, 1, 5, 2⟩ ≠ 0 := by decide +kernel
  refine ⟨_, rfl, (hx.same t4).me ⟨_, rfl, ?_⟩⟩
  dsimp only [tNil]
  refine bin2 h5 kG kG bG bG (hx.same t4) (.inl (hx.same t4)) sz fun v5 H5 s5 h5' => ?_
  refine one_made fun y H6 s6 hy => ?_
  refine cmp1 T (h5'.same s6) hy ?_
  rw [if_neg Bool.false_ne_true, show decide (overN ⟨1, 1, 5, 2⟩ ⟨1, 1, 5, 2⟩ = mkNm 1 0 0 1) = true from by decide +kernel]
  refine ⟨_, rfl, ?_⟩
  have t6 := (t4.trans s5).trans s6
  refine ⟨_, rfl, _, rfl, bin1 h5 kG kG bG bG (hx.same t6) (.inl (hx.same t6)) trivial fun v7 H7 s7 h7 => ?_⟩
  refine h7.sl (int01 h7 ⟨rfl, ?_⟩)
  rw [show (subN ⟨1, 1, 5, 2⟩ ⟨1, 1, 5, 2⟩).r = 0 from by decide +kernel]
  exact q H7
end
end PF

set_option Elab.async false
set_option linter.all false
set_option maxRecDepth 100000
set_option maxHeartbeats 4000000
set_option exponentiation.threshold 20000
namespace PF
open PySem PySem.Spec PyProof.Rows L2 SlX
theorem num_kwd {K : PySem.W.Frag} {D : Addr} {tk1 tk2 : Tok} (h1 : PySem.W.nsIn K D "root" = some (some (.int 0 tk1))) (h2 : PySem.W.nsIn K D "bottom" = some (some (.int 1 tk2))) :
    ∀ q ∈ ([("root", .int 0), ("bottom", .int 1)] : List (Str × V)), ∃ u, PySem.W.nsIn K D q.1 = some (some u) ∧ RelV q.2 u := fun q hq => by
  rcases List.mem_cons.mp hq with e | hq
  · subst e; exact ⟨_, h1, _, rfl⟩
  · rcases List.mem_cons.mp hq with e | hq
    · subst e; exact ⟨_, h2, _, rfl⟩
    · cases hq
theorem kit_self {K : PySem.W.Frag} {C : Addr} : PySem.W.kitOne K (.ref C) (.ref C) = some true := by
  unfold PySem.W.kitOne
  rw [if_pos (by simp)]
theorem kit_own {K : PySem.W.Frag} {C : Addr} {t : Value} {b : Bool} (ne : (t == Value.ref C) = false) (h1 : PySem.W.isClsIn K C = true) (h2 : PySem.W.typeIn K (.ref C) = some (.type "type")) (h3 : PySem.W.subIn K t (.ref C) = some b) : PySem.W.kitOne K t (.ref C) = some b := by
  unfold PySem.W.kitOne
  rw [ne, if_neg Bool.false_ne_true]
  show (if ((PySem.W.clsIn K C).isSome && PySem.W.typeIn K (.ref C) == some (.type "type")) = true then PySem.W.subIn K t (.ref C) else none) = some b
  rw [if_pos (by rw [show (PySem.W.clsIn K C).isSome = true from h1, h2]; rfl)]
  exact h3
theorem kit_bi {K : PySem.W.Frag} {C : Addr} {T : String} {b : Bool} (h1 : PySem.W.kitMeta T = true) (h3 : PySem.W.subIn K (.ref C) (.type T) = some b) : PySem.W.kitOne K (.ref C) (.type T) = some b := by
  unfold PySem.W.kitOne
  rw [if_neg (show ¬ (Value.ref C == Value.type T) = true from fun z => nomatch z)]
  show (if PySem.W.kitMeta T = true then PySem.W.subIn K (.ref C) (.type T) else none) = some b
  rw [if_pos h1]
  exact h3
section
variable {K : PySem.W.Frag} {f : Addr} {fd : FuncData}
theorem num_binds (F : FunD K "__init__" "Number.__init__" (defArgs (inClass (topS 22) 1)) (defBody (inClass (topS 22) 1)) (defScope (inClass (topS 22) 1)) [.int 0] [("root", .int 0), ("bottom", .int 1)] f fd) : ∃ ds, Vals [.int 0, .int 0, .int 1] ds ∧ Binds K fd ["self", "top", "part", "root", "bottom"] ds :=
  F.binds 2 0 (by simp) rfl (fun T D doc pm an cdv ct us its ks h1 h2 h3 => match us, its, ks, h1, h2, h3 with
    | [_, _], [_], [_, _], _, _, _ => ⟨_, rfl, ⟨_, _, _, _, _, _, rfl, rfl, ⟨_, _, _, _, _, _, rfl, rfl, rfl⟩⟩⟩) (by simp)
theorem num_kbinds (F : FunD K "__init__" "Number.__init__" (defArgs (inClass (topS 22) 1)) (defBody (inClass (topS 22) 1)) (defScope (inClass (topS 22) 1)) [.int 0] [("root", .int 0), ("bottom", .int 1)] f fd) : ∃ its : List Value, KBn K fd ["self", "top", "part", "root", "bottom"] 3 ["root", "bottom"] (fun us ws => us ++ ws) (fun vs zs => vs ++ zs) := by
  obtain ⟨its, h⟩ := F.kbindsD (ps := ["self", "top", "part", "root", "bottom"]) 3 ["root", "bottom"] (fun us _ ws => us ++ ws) (by simp) (fun r1 _ r3 => r1.append r3) (fun T kV doc pm an cdv ct us its ws h1 h2 h3 => match us, its, ws, h1, h2, h3 with
    | [_, _, _], [_], [_, _], _, _, _ => ⟨_, rfl, rfl⟩)
  exact ⟨its, h⟩
end
theorem all_mk {prog : Program} {w : World} {K : PySem.W.Frag} {h : Heap} {mg : Str → Option Value} {fa : Addr} (X : K.In h) (G : h.Ns mainGlobals mg) (hfa : mg "law" = some (.ref fa))
    {CN CF : Addr}
    {ft0 : Addr} {odt0 ant0 : Option Addr} {slt0 : Array (Option Value)} {oct0 kVt0 dct0 pmt0 cdt0 ctt0 : Value}
    {ft1 : Addr} {odt1 ant1 : Option Addr} {slt1 : Array (Option Value)} {oct1 kVt1 dct1 pmt1 cdt1 ctt1 : Value}
    {ft2 : Addr} {odt2 ant2 : Option Addr} {slt2 : Array (Option Value)} {oct2 kVt2 dct2 pmt2 cdt2 ctt2 : Value}
    {ft3 : Addr} {odt3 ant3 : Option Addr} {slt3 : Array (Option Value)} {oct3 kVt3 dct3 pmt3 cdt3 ctt3 : Value}
    {ft4 : Addr} {odt4 ant4 : Option Addr} {slt4 : Array (Option Value)} {oct4 kVt4 dct4 pmt4 cdt4 ctt4 : Value}
    {ft5 : Addr} {odt5 ant5 : Option Addr} {slt5 : Array (Option Value)} {oct5 kVt5 dct5 pmt5 cdt5 ctt5 : Value}
    {ft6 : Addr} {odt6 ant6 : Option Addr} {slt6 : Array (Option Value)} {oct6 kVt6 dct6 pmt6 cdt6 ctt6 : Value}
    {ft7 : Addr} {odt7 ant7 : Option Addr} {slt7 : Array (Option Value)} {oct7 kVt7 dct7 pmt7 cdt7 ctt7 : Value}
    {ft8 : Addr} {odt8 ant8 : Option Addr} {slt8 : Array (Option Value)} {oct8 kVt8 dct8 pmt8 cdt8 ctt8 : Value}
    {ft9 : Addr} {odt9 ant9 : Option Addr} {slt9 : Array (Option Value)} {oct9 kVt9 dct9 pmt9 cdt9 ctt9 : Value}
    {ft10 : Addr} {odt10 ant10 : Option Addr} {slt10 : Array (Option Value)} {oct10 kVt10 dct10 pmt10 cdt10 ctt10 : Value}
    {ft11 : Addr} {odt11 ant11 : Option Addr} {slt11 : Array (Option Value)} {oct11 kVt11 dct11 pmt11 cdt11 ctt11 : Value}
    {ft12 : Addr} {odt12 ant12 : Option Addr} {slt12 : Array (Option Value)} {oct12 kVt12 dct12 pmt12 cdt12 ctt12 : Value}
    {ft13 : Addr} {odt13 ant13 : Option Addr} {slt13 : Array (Option Value)} {oct13 kVt13 dct13 pmt13 cdt13 ctt13 : Value}
    {ft14 : Addr} {odt14 ant14 : Option Addr} {slt14 : Array (Option Value)} {oct14 kVt14 dct14 pmt14 cdt14 ctt14 : Value}
    {ft15 : Addr} {odt15 ant15 : Option Addr} {slt15 : Array (Option Value)} {oct15 kVt15 dct15 pmt15 cdt15 ctt15 : Value}
    {ft16 : Addr} {odt16 ant16 : Option Addr} {slt16 : Array (Option Value)} {oct16 kVt16 dct16 pmt16 cdt16 ctt16 : Value}
    {ft17 : Addr} {odt17 ant17 : Option Addr} {slt17 : Array (Option Value)} {oct17 kVt17 dct17 pmt17 cdt17 ctt17 : Value}
    {ft18 : Addr} {odt18 ant18 : Option Addr} {slt18 : Array (Option Value)} {oct18 kVt18 dct18 pmt18 cdt18 ctt18 : Value}
    {ft19 : Addr} {odt19 ant19 : Option Addr} {slt19 : Array (Option Value)} {oct19 kVt19 dct19 pmt19 cdt19 ctt19 : Value}
    {ft20 : Addr} {odt20 ant20 : Option Addr} {slt20 : Array (Option Value)} {oct20 kVt20 dct20 pmt20 cdt20 ctt20 : Value}
    {ft21 : Addr} {odt21 ant21 : Option Addr} {slt21 : Array (Option Value)} {oct21 kVt21 dct21 pmt21 cdt21 ctt21 : Value}
    {ft22 : Addr} {odt22 ant22 : Option Addr} {slt22 : Array (Option Value)} {oct22 kVt22 dct22 pmt22 cdt22 ctt22 : Value}
    {ft23 : Addr} {odt23 ant23 : Option Addr} {slt23 : Array (Option Value)} {oct23 kVt23 dct23 pmt23 cdt23 ctt23 : Value}
    {ft24 : Addr} {odt24 ant24 : Option Addr} {slt24 : Array (Option Value)} {oct24 kVt24 dct24 pmt24 cdt24 ctt24 : Value}
    {ft25 : Addr} {odt25 ant25 : Option Addr} {slt25 : Array (Option Value)} {oct25 kVt25 dct25 pmt25 cdt25 ctt25 : Value}
    {ft26 : Addr} {odt26 ant26 : Option Addr} {slt26 : Array (Option Value)} {oct26 kVt26 dct26 pmt26 cdt26 ctt26 : Value}
    {tkMAX_ROOT : Tok}
    {tkLEAST_ROOT : Tok}
    {pNtop : Addr}
    {pNpart : Addr}
    {pNroot : Addr}
    {pNbottom : Addr}
    {pFtop : Addr}
    {pFpart : Addr}
    {pFroot : Addr}
    {pFbottom : Addr}
    {ffi : Addr} {odfi anfi : Option Addr} {slfi : Array (Option Value)} {ocfi kVfi dcfi pmfi cdfi ctfi : Value}
    {fni aT aD : Addr} {odni anni odT : Option Addr} {slni slT : Array (Option Value)} {ocni ocT dcni pmni cdni ctni : Value} {mT : Nat} {tk0 tk1 tk2 : Tok}
    {fadd : Addr} {odadd anadd : Option Addr} {sladd : Array (Option Value)} {ocadd kVadd dcadd pmadd cdadd ctadd : Value}
    {foadd roadd : Option Value}
    {fsub : Addr} {odsub ansub : Option Addr} {slsub : Array (Option Value)} {ocsub kVsub dcsub pmsub cdsub ctsub : Value}
    {fosub rosub : Option Value}
    {fmul : Addr} {odmul anmul : Option Addr} {slmul : Array (Option Value)} {ocmul kVmul dcmul pmmul cdmul ctmul : Value}
    {fomul romul : Option Value}
    {fover : Addr} {odover anover : Option Addr} {slover : Array (Option Value)} {ocover kVover dcover pmover cdover ctover : Value}
    {fneg : Addr} {odneg anneg : Option Addr} {slneg : Array (Option Value)} {ocneg kVneg dcneg pmneg cdneg ctneg : Value}
    {feq : Addr} {odeq aneq : Option Addr} {sleq : Array (Option Value)} {oceq kVeq dceq pmeq cdeq cteq : Value}
    {dp_top : Addr} {rsp_top : List Value}
    {fp_top : Addr} {odp_top anp_top : Option Addr} {slp_top : Array (Option Value)} {ocp_top kVp_top dcp_top pmp_top cdp_top ctp_top : Value}
    {dp_part : Addr} {rsp_part : List Value}
    {fp_part : Addr} {odp_part anp_part : Option Addr} {slp_part : Array (Option Value)} {ocp_part kVp_part dcp_part pmp_part cdp_part ctp_part : Value}
    {dp_root : Addr} {rsp_root : List Value}
    {fp_root : Addr} {odp_root anp_root : Option Addr} {slp_root : Array (Option Value)} {ocp_root kVp_root dcp_root pmp_root cdp_root ctp_root : Value}
    {dp_bottom : Addr} {rsp_bottom : List Value}
    {fp_bottom : Addr} {odp_bottom anp_bottom : Option Addr} {slp_bottom : Array (Option Value)} {ocp_bottom kVp_bottom dcp_bottom pmp_bottom cdp_bottom ctp_bottom : Value}
    {dp_sign : Addr} {rsp_sign : List Value}
    {fp_sign : Addr} {odp_sign anp_sign : Option Addr} {slp_sign : Array (Option Value)} {ocp_sign kVp_sign dcp_sign pmp_sign cdp_sign ctp_sign : Value}
    {dp_floor : Addr} {rsp_floor : List Value}
    {fp_floor : Addr} {odp_floor anp_floor : Option Addr} {slp_floor : Array (Option Value)} {ocp_floor kVp_floor dcp_floor pmp_floor cdp_floor ctp_floor : Value}
    {dp_mirror : Addr} {rsp_mirror : List Value}
    {fp_mirror : Addr} {odp_mirror anp_mirror : Option Addr} {slp_mirror : Array (Option Value)} {ocp_mirror kVp_mirror dcp_mirror pmp_mirror cdp_mirror ctp_mirror : Value}
    {dp_norm : Addr} {rsp_norm : List Value}
    {fp_norm : Addr} {odp_norm anp_norm : Option Addr} {slp_norm : Array (Option Value)} {ocp_norm kVp_norm dcp_norm pmp_norm cdp_norm ctp_norm : Value}
    (aN : PySem.W.nsIn K mainGlobals "Number" = some (some (.ref CN)))
    (aF : PySem.W.nsIn K mainGlobals "Form" = some (some (.ref CF)))
    (at0 : PySem.W.nsIn K mainGlobals "is_whole" = some (some (.ref ft0)))
    (lt0 : K.lookup ft0 = some ⟨oct0, odt0, .func (PySem.W.fnOf "is_whole" "is_whole" (defArgs (topS 7)) (defBody (topS 7)) (defScope (topS 7)) .none kVt0 dct0 pmt0 ant0 cdt0 ctt0), slt0⟩)
    (ct0 : PySem.W.codeIn K cdt0 "is_whole" = true)
    (kt0 : PySem.W.keepIn K (.ref ft0) = true)
    (at1 : PySem.W.nsIn K mainGlobals "greatest_divisor" = some (some (.ref ft1)))
    (lt1 : K.lookup ft1 = some ⟨oct1, odt1, .func (PySem.W.fnOf "greatest_divisor" "greatest_divisor" (defArgs (topS 8)) (defBody (topS 8)) (defScope (topS 8)) .none kVt1 dct1 pmt1 ant1 cdt1 ctt1), slt1⟩)
    (ct1 : PySem.W.codeIn K cdt1 "greatest_divisor" = true)
    (kt1 : PySem.W.keepIn K (.ref ft1) = true)
    (at2 : PySem.W.nsIn K mainGlobals "whole_root" = some (some (.ref ft2)))
    (lt2 : K.lookup ft2 = some ⟨oct2, odt2, .func (PySem.W.fnOf "whole_root" "whole_root" (defArgs (topS 9)) (defBody (topS 9)) (defScope (topS 9)) .none kVt2 dct2 pmt2 ant2 cdt2 ctt2), slt2⟩)
    (ct2 : PySem.W.codeIn K cdt2 "whole_root" = true)
    (kt2 : PySem.W.keepIn K (.ref ft2) = true)
    (at3 : PySem.W.nsIn K mainGlobals "is_root" = some (some (.ref ft3)))
    (lt3 : K.lookup ft3 = some ⟨oct3, odt3, .func (PySem.W.fnOf "is_root" "is_root" (defArgs (topS 15)) (defBody (topS 15)) (defScope (topS 15)) .none kVt3 dct3 pmt3 ant3 cdt3 ctt3), slt3⟩)
    (ct3 : PySem.W.codeIn K cdt3 "is_root" = true)
    (kt3 : PySem.W.keepIn K (.ref ft3) = true)
    (at4 : PySem.W.nsIn K mainGlobals "sign_of" = some (some (.ref ft4)))
    (lt4 : K.lookup ft4 = some ⟨oct4, odt4, .func (PySem.W.fnOf "sign_of" "sign_of" (defArgs (topS 16)) (defBody (topS 16)) (defScope (topS 16)) .none kVt4 dct4 pmt4 ant4 cdt4 ctt4), slt4⟩)
    (ct4 : PySem.W.codeIn K cdt4 "sign_of" = true)
    (kt4 : PySem.W.keepIn K (.ref ft4) = true)
    (at5 : PySem.W.nsIn K mainGlobals "sign_of_sum" = some (some (.ref ft5)))
    (lt5 : K.lookup ft5 = some ⟨oct5, odt5, .func (PySem.W.fnOf "sign_of_sum" "sign_of_sum" (defArgs (topS 17)) (defBody (topS 17)) (defScope (topS 17)) .none kVt5 dct5 pmt5 ant5 cdt5 ctt5), slt5⟩)
    (ct5 : PySem.W.codeIn K cdt5 "sign_of_sum" = true)
    (kt5 : PySem.W.keepIn K (.ref ft5) = true)
    (at6 : PySem.W.nsIn K mainGlobals "floor_of" = some (some (.ref ft6)))
    (lt6 : K.lookup ft6 = some ⟨oct6, odt6, .func (PySem.W.fnOf "floor_of" "floor_of" (defArgs (topS 18)) (defBody (topS 18)) (defScope (topS 18)) .none kVt6 dct6 pmt6 ant6 cdt6 ctt6), slt6⟩)
    (ct6 : PySem.W.codeIn K cdt6 "floor_of" = true)
    (kt6 : PySem.W.keepIn K (.ref ft6) = true)
    (at7 : PySem.W.nsIn K mainGlobals "form_in" = some (some (.ref ft7)))
    (lt7 : K.lookup ft7 = some ⟨oct7, odt7, .func (PySem.W.fnOf "form_in" "form_in" (defArgs (topS 21)) (defBody (topS 21)) (defScope (topS 21)) .none kVt7 dct7 pmt7 ant7 cdt7 ctt7), slt7⟩)
    (ct7 : PySem.W.codeIn K cdt7 "form_in" = true)
    (kt7 : PySem.W.keepIn K (.ref ft7) = true)
    (at8 : PySem.W.nsIn K mainGlobals "is_like_number" = some (some (.ref ft8)))
    (lt8 : K.lookup ft8 = some ⟨oct8, odt8, .func (PySem.W.fnOf "is_like_number" "is_like_number" (defArgs (topS 23)) (defBody (topS 23)) (defScope (topS 23)) .none kVt8 dct8 pmt8 ant8 cdt8 ctt8), slt8⟩)
    (ct8 : PySem.W.codeIn K cdt8 "is_like_number" = true)
    (kt8 : PySem.W.keepIn K (.ref ft8) = true)
    (at9 : PySem.W.nsIn K mainGlobals "number_of" = some (some (.ref ft9)))
    (lt9 : K.lookup ft9 = some ⟨oct9, odt9, .func (PySem.W.fnOf "number_of" "number_of" (defArgs (topS 24)) (defBody (topS 24)) (defScope (topS 24)) .none kVt9 dct9 pmt9 ant9 cdt9 ctt9), slt9⟩)
    (ct9 : PySem.W.codeIn K cdt9 "number_of" = true)
    (kt9 : PySem.W.keepIn K (.ref ft9) = true)
    (at10 : PySem.W.nsIn K mainGlobals "required" = some (some (.ref ft10)))
    (lt10 : K.lookup ft10 = some ⟨oct10, odt10, .func (PySem.W.fnOf "required" "required" (defArgs (topS 25)) (defBody (topS 25)) (defScope (topS 25)) .none kVt10 dct10 pmt10 ant10 cdt10 ctt10), slt10⟩)
    (ct10 : PySem.W.codeIn K cdt10 "required" = true)
    (kt10 : PySem.W.keepIn K (.ref ft10) = true)
    (at11 : PySem.W.nsIn K mainGlobals "common_root" = some (some (.ref ft11)))
    (lt11 : K.lookup ft11 = some ⟨oct11, odt11, .func (PySem.W.fnOf "common_root" "common_root" (defArgs (topS 26)) (defBody (topS 26)) (defScope (topS 26)) .none kVt11 dct11 pmt11 ant11 cdt11 ctt11), slt11⟩)
    (ct11 : PySem.W.codeIn K cdt11 "common_root" = true)
    (kt11 : PySem.W.keepIn K (.ref ft11) = true)
    (at12 : PySem.W.nsIn K mainGlobals "_law_dice" = some (some (.ref ft12)))
    (lt12 : K.lookup ft12 = some ⟨oct12, odt12, .func (PySem.W.fnOf "_law_dice" "_law_dice" (defArgs (topS 31)) (defBody (topS 31)) (defScope (topS 31)) .none kVt12 dct12 pmt12 ant12 cdt12 ctt12), slt12⟩)
    (ct12 : PySem.W.codeIn K cdt12 "_law_dice" = true)
    (kt12 : PySem.W.keepIn K (.ref ft12) = true)
    (at13 : PySem.W.nsIn K mainGlobals "_law_roll" = some (some (.ref ft13)))
    (lt13 : K.lookup ft13 = some ⟨oct13, odt13, .func (PySem.W.fnOf "_law_roll" "_law_roll" (defArgs (topS 32)) (defBody (topS 32)) (defScope (topS 32)) .none kVt13 dct13 pmt13 ant13 cdt13 ctt13), slt13⟩)
    (ct13 : PySem.W.codeIn K cdt13 "_law_roll" = true)
    (kt13 : PySem.W.keepIn K (.ref ft13) = true)
    (at14 : PySem.W.nsIn K mainGlobals "_law_pick" = some (some (.ref ft14)))
    (lt14 : K.lookup ft14 = some ⟨oct14, odt14, .func (PySem.W.fnOf "_law_pick" "_law_pick" (defArgs (topS 33)) (defBody (topS 33)) (defScope (topS 33)) .none kVt14 dct14 pmt14 ant14 cdt14 ctt14), slt14⟩)
    (ct14 : PySem.W.codeIn K cdt14 "_law_pick" = true)
    (kt14 : PySem.W.keepIn K (.ref ft14) = true)
    (at15 : PySem.W.nsIn K mainGlobals "_law_sign" = some (some (.ref ft15)))
    (lt15 : K.lookup ft15 = some ⟨oct15, odt15, .func (PySem.W.fnOf "_law_sign" "_law_sign" (defArgs (topS 34)) (defBody (topS 34)) (defScope (topS 34)) .none kVt15 dct15 pmt15 ant15 cdt15 ctt15), slt15⟩)
    (ct15 : PySem.W.codeIn K cdt15 "_law_sign" = true)
    (kt15 : PySem.W.keepIn K (.ref ft15) = true)
    (at16 : PySem.W.nsIn K mainGlobals "_law_common" = some (some (.ref ft16)))
    (lt16 : K.lookup ft16 = some ⟨oct16, odt16, .func (PySem.W.fnOf "_law_common" "_law_common" (defArgs (topS 35)) (defBody (topS 35)) (defScope (topS 35)) .none kVt16 dct16 pmt16 ant16 cdt16 ctt16), slt16⟩)
    (ct16 : PySem.W.codeIn K cdt16 "_law_common" = true)
    (kt16 : PySem.W.keepIn K (.ref ft16) = true)
    (at17 : PySem.W.nsIn K mainGlobals "_law_least" = some (some (.ref ft17)))
    (lt17 : K.lookup ft17 = some ⟨oct17, odt17, .func (PySem.W.fnOf "_law_least" "_law_least" (defArgs (topS 36)) (defBody (topS 36)) (defScope (topS 36)) .none kVt17 dct17 pmt17 ant17 cdt17 ctt17), slt17⟩)
    (ct17 : PySem.W.codeIn K cdt17 "_law_least" = true)
    (kt17 : PySem.W.keepIn K (.ref ft17) = true)
    (at18 : PySem.W.nsIn K mainGlobals "_law_parts_drawn" = some (some (.ref ft18)))
    (lt18 : K.lookup ft18 = some ⟨oct18, odt18, .func (PySem.W.fnOf "_law_parts_drawn" "_law_parts_drawn" (defArgs (topS 37)) (defBody (topS 37)) (defScope (topS 37)) .none kVt18 dct18 pmt18 ant18 cdt18 ctt18), slt18⟩)
    (ct18 : PySem.W.codeIn K cdt18 "_law_parts_drawn" = true)
    (kt18 : PySem.W.keepIn K (.ref ft18) = true)
    (at19 : PySem.W.nsIn K mainGlobals "_law_made" = some (some (.ref ft19)))
    (lt19 : K.lookup ft19 = some ⟨oct19, odt19, .func (PySem.W.fnOf "_law_made" "_law_made" (defArgs (topS 38)) (defBody (topS 38)) (defScope (topS 38)) .none kVt19 dct19 pmt19 ant19 cdt19 ctt19), slt19⟩)
    (ct19 : PySem.W.codeIn K cdt19 "_law_made" = true)
    (kt19 : PySem.W.keepIn K (.ref ft19) = true)
    (at20 : PySem.W.nsIn K mainGlobals "_law_form" = some (some (.ref ft20)))
    (lt20 : K.lookup ft20 = some ⟨oct20, odt20, .func (PySem.W.fnOf "_law_form" "_law_form" (defArgs (topS 39)) (defBody (topS 39)) (defScope (topS 39)) .none kVt20 dct20 pmt20 ant20 cdt20 ctt20), slt20⟩)
    (ct20 : PySem.W.codeIn K cdt20 "_law_form" = true)
    (kt20 : PySem.W.keepIn K (.ref ft20) = true)
    (at21 : PySem.W.nsIn K mainGlobals "_law_added" = some (some (.ref ft21)))
    (lt21 : K.lookup ft21 = some ⟨oct21, odt21, .func (PySem.W.fnOf "_law_added" "_law_added" (defArgs (topS 40)) (defBody (topS 40)) (defScope (topS 40)) .none kVt21 dct21 pmt21 ant21 cdt21 ctt21), slt21⟩)
    (ct21 : PySem.W.codeIn K cdt21 "_law_added" = true)
    (kt21 : PySem.W.keepIn K (.ref ft21) = true)
    (at22 : PySem.W.nsIn K mainGlobals "_law_multiplied" = some (some (.ref ft22)))
    (lt22 : K.lookup ft22 = some ⟨oct22, odt22, .func (PySem.W.fnOf "_law_multiplied" "_law_multiplied" (defArgs (topS 41)) (defBody (topS 41)) (defScope (topS 41)) .none kVt22 dct22 pmt22 ant22 cdt22 ctt22), slt22⟩)
    (ct22 : PySem.W.codeIn K cdt22 "_law_multiplied" = true)
    (kt22 : PySem.W.keepIn K (.ref ft22) = true)
    (at23 : PySem.W.nsIn K mainGlobals "_law_alone_right" = some (some (.ref ft23)))
    (lt23 : K.lookup ft23 = some ⟨oct23, odt23, .func (PySem.W.fnOf "_law_alone_right" "_law_alone_right" (defArgs (topS 42)) (defBody (topS 42)) (defScope (topS 42)) .none kVt23 dct23 pmt23 ant23 cdt23 ctt23), slt23⟩)
    (ct23 : PySem.W.codeIn K cdt23 "_law_alone_right" = true)
    (kt23 : PySem.W.keepIn K (.ref ft23) = true)
    (at24 : PySem.W.nsIn K mainGlobals "_law_two_right" = some (some (.ref ft24)))
    (lt24 : K.lookup ft24 = some ⟨oct24, odt24, .func (PySem.W.fnOf "_law_two_right" "_law_two_right" (defArgs (topS 43)) (defBody (topS 43)) (defScope (topS 43)) .none kVt24 dct24 pmt24 ant24 cdt24 ctt24), slt24⟩)
    (ct24 : PySem.W.codeIn K cdt24 "_law_two_right" = true)
    (kt24 : PySem.W.keepIn K (.ref ft24) = true)
    (at25 : PySem.W.nsIn K mainGlobals "_law_right" = some (some (.ref ft25)))
    (lt25 : K.lookup ft25 = some ⟨oct25, odt25, .func (PySem.W.fnOf "_law_right" "_law_right" (defArgs (topS 44)) (defBody (topS 44)) (defScope (topS 44)) .none kVt25 dct25 pmt25 ant25 cdt25 ctt25), slt25⟩)
    (ct25 : PySem.W.codeIn K cdt25 "_law_right" = true)
    (kt25 : PySem.W.keepIn K (.ref ft25) = true)
    (at26 : PySem.W.nsIn K mainGlobals "law" = some (some (.ref ft26)))
    (lt26 : K.lookup ft26 = some ⟨oct26, odt26, .func (PySem.W.fnOf "law" "law" (defArgs (topS 45)) (defBody (topS 45)) (defScope (topS 45)) .none kVt26 dct26 pmt26 ant26 cdt26 ctt26), slt26⟩)
    (ct26 : PySem.W.codeIn K cdt26 "law" = true)
    (kt26 : PySem.W.keepIn K (.ref ft26) = true)
    (gMAX_ROOT : PySem.W.nsIn K mainGlobals "MAX_ROOT" = some (some (.int 999 tkMAX_ROOT)))
    (gLEAST_ROOT : PySem.W.nsIn K mainGlobals "LEAST_ROOT" = some (some (.int 2 tkLEAST_ROOT)))
    (z__ : PySem.W.nsIn K mainGlobals "_" = some none)
    (z_abs : PySem.W.nsIn K mainGlobals "abs" = some none)
    (z_all : PySem.W.nsIn K mainGlobals "all" = some none)
    (z_bool : PySem.W.nsIn K mainGlobals "bool" = some none)
    (z_int : PySem.W.nsIn K mainGlobals "int" = some none)
    (z_isinstance : PySem.W.nsIn K mainGlobals "isinstance" = some none)
    (z_len : PySem.W.nsIn K mainGlobals "len" = some none)
    (z_max : PySem.W.nsIn K mainGlobals "max" = some none)
    (z_min : PySem.W.nsIn K mainGlobals "min" = some none)
    (z_range : PySem.W.nsIn K mainGlobals "range" = some none)
    (z_repr : PySem.W.nsIn K mainGlobals "repr" = some none)
    (z_str : PySem.W.nsIn K mainGlobals "str" = some none)
    (pgN : PySem.W.plainGet K CN Str.empty = true)
    (icN : PySem.W.isClsIn K CN = true)
    (poN : PySem.W.plainOver K CN = true)
    (saN : PySem.W.findIn K (.ref CN) "__setattr__" = some (some (.builtin "object.__setattr__")))
    (caN : PySem.W.findIn K (.ref CN) "__class__" = some (some (.builtin "object.__class__")))
    (cmN : PySem.W.mroIn K CN (.type "object") = some true)
    (mkN : PySem.W.makesIn K CN = true)
    (kcN : PySem.W.keepIn K (.ref CN) = true)
    (pgF : PySem.W.plainGet K CF Str.empty = true)
    (icF : PySem.W.isClsIn K CF = true)
    (poF : PySem.W.plainOver K CF = true)
    (saF : PySem.W.findIn K (.ref CF) "__setattr__" = some (some (.builtin "object.__setattr__")))
    (caF : PySem.W.findIn K (.ref CF) "__class__" = some (some (.builtin "object.__class__")))
    (cmF : PySem.W.mroIn K CF (.type "object") = some true)
    (mkF : PySem.W.makesIn K CF = true)
    (kcF : PySem.W.keepIn K (.ref CF) = true)
    (cn : PySem.W.specialIn K (.builtin "object.__class__") "__get__" = some (some (.builtin "getset_descriptor.__get__")))
    (ct : PySem.W.takesIn K (.builtin "object.__class__") = some true)
    (saNtop : PySem.W.findIn K (.ref CN) "own_top" = some (some (.ref pNtop)))
    (sgNtop : PySem.W.specialIn K (.ref pNtop) "__get__" = some (some (.builtin "member_descriptor.__get__")))
    (stNtop : PySem.W.takesIn K (.ref pNtop) = some true)
    (syNtop : PySem.W.typeIn K (.ref pNtop) = some (.type "member_descriptor"))
    (sxNtop : PySem.W.slotIn K pNtop CN = some 3)
    (saNpart : PySem.W.findIn K (.ref CN) "own_part" = some (some (.ref pNpart)))
    (sgNpart : PySem.W.specialIn K (.ref pNpart) "__get__" = some (some (.builtin "member_descriptor.__get__")))
    (stNpart : PySem.W.takesIn K (.ref pNpart) = some true)
    (syNpart : PySem.W.typeIn K (.ref pNpart) = some (.type "member_descriptor"))
    (sxNpart : PySem.W.slotIn K pNpart CN = some 1)
    (saNroot : PySem.W.findIn K (.ref CN) "own_root" = some (some (.ref pNroot)))
    (sgNroot : PySem.W.specialIn K (.ref pNroot) "__get__" = some (some (.builtin "member_descriptor.__get__")))
    (stNroot : PySem.W.takesIn K (.ref pNroot) = some true)
    (syNroot : PySem.W.typeIn K (.ref pNroot) = some (.type "member_descriptor"))
    (sxNroot : PySem.W.slotIn K pNroot CN = some 2)
    (saNbottom : PySem.W.findIn K (.ref CN) "own_bottom" = some (some (.ref pNbottom)))
    (sgNbottom : PySem.W.specialIn K (.ref pNbottom) "__get__" = some (some (.builtin "member_descriptor.__get__")))
    (stNbottom : PySem.W.takesIn K (.ref pNbottom) = some true)
    (syNbottom : PySem.W.typeIn K (.ref pNbottom) = some (.type "member_descriptor"))
    (sxNbottom : PySem.W.slotIn K pNbottom CN = some 0)
    (saFtop : PySem.W.findIn K (.ref CF) "own_top" = some (some (.ref pFtop)))
    (sgFtop : PySem.W.specialIn K (.ref pFtop) "__get__" = some (some (.builtin "member_descriptor.__get__")))
    (stFtop : PySem.W.takesIn K (.ref pFtop) = some true)
    (syFtop : PySem.W.typeIn K (.ref pFtop) = some (.type "member_descriptor"))
    (sxFtop : PySem.W.slotIn K pFtop CF = some 3)
    (saFpart : PySem.W.findIn K (.ref CF) "own_part" = some (some (.ref pFpart)))
    (sgFpart : PySem.W.specialIn K (.ref pFpart) "__get__" = some (some (.builtin "member_descriptor.__get__")))
    (stFpart : PySem.W.takesIn K (.ref pFpart) = some true)
    (syFpart : PySem.W.typeIn K (.ref pFpart) = some (.type "member_descriptor"))
    (sxFpart : PySem.W.slotIn K pFpart CF = some 1)
    (saFroot : PySem.W.findIn K (.ref CF) "own_root" = some (some (.ref pFroot)))
    (sgFroot : PySem.W.specialIn K (.ref pFroot) "__get__" = some (some (.builtin "member_descriptor.__get__")))
    (stFroot : PySem.W.takesIn K (.ref pFroot) = some true)
    (syFroot : PySem.W.typeIn K (.ref pFroot) = some (.type "member_descriptor"))
    (sxFroot : PySem.W.slotIn K pFroot CF = some 2)
    (saFbottom : PySem.W.findIn K (.ref CF) "own_bottom" = some (some (.ref pFbottom)))
    (sgFbottom : PySem.W.specialIn K (.ref pFbottom) "__get__" = some (some (.builtin "member_descriptor.__get__")))
    (stFbottom : PySem.W.takesIn K (.ref pFbottom) = some true)
    (syFbottom : PySem.W.typeIn K (.ref pFbottom) = some (.type "member_descriptor"))
    (sxFbottom : PySem.W.slotIn K pFbottom CF = some 0)
    (tyN : PySem.W.typeIn K (.ref CN) = some (.type "type"))
    (tyF : PySem.W.typeIn K (.ref CF) = some (.type "type"))
    (suF : PySem.W.subIn K (.type "int") (.ref CF) = some false)
    (suI : PySem.W.subIn K (.ref CN) (.type "int") = some false)
    (afi : PySem.W.findIn K (.ref CF) "__init__" = some (some (.ref ffi)))
    (lfi : K.lookup ffi = some ⟨ocfi, odfi, .func (PySem.W.fnOf "__init__" "Form.__init__" (defArgs (inClass (topS 20) 1)) (defBody (inClass (topS 20) 1)) (defScope (inClass (topS 20) 1)) .none kVfi dcfi pmfi anfi cdfi ctfi), slfi⟩)
    (cfi : PySem.W.codeIn K cdfi "Form.__init__" = true)
    (kfi : PySem.W.keepIn K (.ref ffi) = true)
    (ifi : PySem.W.isFn K (.ref ffi) = true)
    (ani : PySem.W.findIn K (.ref CN) "__init__" = some (some (.ref fni)))
    (lni : K.lookup fni = some ⟨ocni, odni, .func (PySem.W.fnOf "__init__" "Number.__init__" (defArgs (inClass (topS 22) 1)) (defBody (inClass (topS 22) 1)) (defScope (inClass (topS 22) 1)) (.ref aT) (.ref aD) dcni pmni anni cdni ctni), slni⟩)
    (cni : PySem.W.codeIn K cdni "Number.__init__" = true)
    (kni : PySem.W.keepIn K (.ref fni) = true)
    (ini : PySem.W.isFn K (.ref fni) = true)
    (lT : K.lookup aT = some ⟨ocT, odT, .seq #[.int 0 tk0] mT, slT⟩)
    (nDr : PySem.W.nsIn K aD "root" = some (some (.int 0 tk1)))
    (nDb : PySem.W.nsIn K aD "bottom" = some (some (.int 1 tk2)))
    (aadd : PySem.W.findIn K (.ref CN) "__add__" = some (some (.ref fadd)))
    (ladd : K.lookup fadd = some ⟨ocadd, odadd, .func (PySem.W.fnOf "__add__" "Number.__add__" (defArgs (inClass (topS 22) 13)) (defBody (inClass (topS 22) 13)) (defScope (inClass (topS 22) 13)) .none kVadd dcadd pmadd anadd cdadd ctadd), sladd⟩)
    (cadd : PySem.W.codeIn K cdadd "Number.__add__" = true)
    (kadd : PySem.W.keepIn K (.ref fadd) = true)
    (iadd : PySem.W.isFn K (.ref fadd) = true)
    (rcadd : PySem.W.findIn K (.ref CN) "__radd__" = some none)
    (foadd : PySem.W.findIn K (.type "int") "__add__" = some foadd)
    (roadd : PySem.W.findIn K (.type "int") "__radd__" = some roadd)
    (asub : PySem.W.findIn K (.ref CN) "__sub__" = some (some (.ref fsub)))
    (lsub : K.lookup fsub = some ⟨ocsub, odsub, .func (PySem.W.fnOf "__sub__" "Number.__sub__" (defArgs (inClass (topS 22) 14)) (defBody (inClass (topS 22) 14)) (defScope (inClass (topS 22) 14)) .none kVsub dcsub pmsub ansub cdsub ctsub), slsub⟩)
    (csub : PySem.W.codeIn K cdsub "Number.__sub__" = true)
    (ksub : PySem.W.keepIn K (.ref fsub) = true)
    (isub : PySem.W.isFn K (.ref fsub) = true)
    (rcsub : PySem.W.findIn K (.ref CN) "__rsub__" = some none)
    (fosub : PySem.W.findIn K (.type "int") "__sub__" = some fosub)
    (rosub : PySem.W.findIn K (.type "int") "__rsub__" = some rosub)
    (amul : PySem.W.findIn K (.ref CN) "__mul__" = some (some (.ref fmul)))
    (lmul : K.lookup fmul = some ⟨ocmul, odmul, .func (PySem.W.fnOf "__mul__" "Number.__mul__" (defArgs (inClass (topS 22) 15)) (defBody (inClass (topS 22) 15)) (defScope (inClass (topS 22) 15)) .none kVmul dcmul pmmul anmul cdmul ctmul), slmul⟩)
    (cmul : PySem.W.codeIn K cdmul "Number.__mul__" = true)
    (kmul : PySem.W.keepIn K (.ref fmul) = true)
    (imul : PySem.W.isFn K (.ref fmul) = true)
    (rcmul : PySem.W.findIn K (.ref CN) "__rmul__" = some none)
    (fomul : PySem.W.findIn K (.type "int") "__mul__" = some fomul)
    (romul : PySem.W.findIn K (.type "int") "__rmul__" = some romul)
    (sfN : PySem.W.selfFirst K CN = true)
    (suN : PySem.W.subIn K (.type "int") (.ref CN) = some false)
    (aover : PySem.W.findIn K (.ref CN) "over" = some (some (.ref fover)))
    (lover : K.lookup fover = some ⟨ocover, odover, .func (PySem.W.fnOf "over" "Number.over" (defArgs (inClass (topS 22) 12)) (defBody (inClass (topS 22) 12)) (defScope (inClass (topS 22) 12)) .none kVover dcover pmover anover cdover ctover), slover⟩)
    (cover : PySem.W.codeIn K cdover "Number.over" = true)
    (kover : PySem.W.keepIn K (.ref fover) = true)
    (iover : PySem.W.isFn K (.ref fover) = true)
    (aneg : PySem.W.findIn K (.ref CN) "__neg__" = some (some (.ref fneg)))
    (lneg : K.lookup fneg = some ⟨ocneg, odneg, .func (PySem.W.fnOf "__neg__" "Number.__neg__" (defArgs (inClass (topS 22) 16)) (defBody (inClass (topS 22) 16)) (defScope (inClass (topS 22) 16)) .none kVneg dcneg pmneg anneg cdneg ctneg), slneg⟩)
    (cneg : PySem.W.codeIn K cdneg "Number.__neg__" = true)
    (kneg : PySem.W.keepIn K (.ref fneg) = true)
    (ineg : PySem.W.isFn K (.ref fneg) = true)
    (aeq : PySem.W.findIn K (.ref CN) "__eq__" = some (some (.ref feq)))
    (leq : K.lookup feq = some ⟨oceq, odeq, .func (PySem.W.fnOf "__eq__" "Number.__eq__" (defArgs (inClass (topS 22) 17)) (defBody (inClass (topS 22) 17)) (defScope (inClass (topS 22) 17)) .none kVeq dceq pmeq aneq cdeq cteq), sleq⟩)
    (ceq : PySem.W.codeIn K cdeq "Number.__eq__" = true)
    (keq : PySem.W.keepIn K (.ref feq) = true)
    (ieq : PySem.W.isFn K (.ref feq) = true)
    (ne : PySem.W.findIn K (.ref CN) "__ne__" = some (some (.builtin "object.__ne__")))
    (ap_top : PySem.W.findIn K (.ref CN) "top" = some (some (.ref dp_top)))
    (sp_top : PySem.W.specialIn K (.ref dp_top) "__get__" = some (some (.builtin "property.__get__")))
    (tp_top : PySem.W.takesIn K (.ref dp_top) = some true)
    (rp_top : PySem.W.recIn K dp_top "property" = some (.ref fp_top :: rsp_top))
    (lp_top : K.lookup fp_top = some ⟨ocp_top, odp_top, .func (PySem.W.fnOf "top" "Number.top" (defArgs (inClass (topS 22) 3)) (defBody (inClass (topS 22) 3)) (defScope (inClass (topS 22) 3)) .none kVp_top dcp_top pmp_top anp_top cdp_top ctp_top), slp_top⟩)
    (cp_top : PySem.W.codeIn K cdp_top "Number.top" = true)
    (kp_top : PySem.W.keepIn K (.ref fp_top) = true)
    (ap_part : PySem.W.findIn K (.ref CN) "part" = some (some (.ref dp_part)))
    (sp_part : PySem.W.specialIn K (.ref dp_part) "__get__" = some (some (.builtin "property.__get__")))
    (tp_part : PySem.W.takesIn K (.ref dp_part) = some true)
    (rp_part : PySem.W.recIn K dp_part "property" = some (.ref fp_part :: rsp_part))
    (lp_part : K.lookup fp_part = some ⟨ocp_part, odp_part, .func (PySem.W.fnOf "part" "Number.part" (defArgs (inClass (topS 22) 4)) (defBody (inClass (topS 22) 4)) (defScope (inClass (topS 22) 4)) .none kVp_part dcp_part pmp_part anp_part cdp_part ctp_part), slp_part⟩)
    (cp_part : PySem.W.codeIn K cdp_part "Number.part" = true)
    (kp_part : PySem.W.keepIn K (.ref fp_part) = true)
    (ap_root : PySem.W.findIn K (.ref CN) "root" = some (some (.ref dp_root)))
    (sp_root : PySem.W.specialIn K (.ref dp_root) "__get__" = some (some (.builtin "property.__get__")))
    (tp_root : PySem.W.takesIn K (.ref dp_root) = some true)
    (rp_root : PySem.W.recIn K dp_root "property" = some (.ref fp_root :: rsp_root))
    (lp_root : K.lookup fp_root = some ⟨ocp_root, odp_root, .func (PySem.W.fnOf "root" "Number.root" (defArgs (inClass (topS 22) 5)) (defBody (inClass (topS 22) 5)) (defScope (inClass (topS 22) 5)) .none kVp_root dcp_root pmp_root anp_root cdp_root ctp_root), slp_root⟩)
    (cp_root : PySem.W.codeIn K cdp_root "Number.root" = true)
    (kp_root : PySem.W.keepIn K (.ref fp_root) = true)
    (ap_bottom : PySem.W.findIn K (.ref CN) "bottom" = some (some (.ref dp_bottom)))
    (sp_bottom : PySem.W.specialIn K (.ref dp_bottom) "__get__" = some (some (.builtin "property.__get__")))
    (tp_bottom : PySem.W.takesIn K (.ref dp_bottom) = some true)
    (rp_bottom : PySem.W.recIn K dp_bottom "property" = some (.ref fp_bottom :: rsp_bottom))
    (lp_bottom : K.lookup fp_bottom = some ⟨ocp_bottom, odp_bottom, .func (PySem.W.fnOf "bottom" "Number.bottom" (defArgs (inClass (topS 22) 6)) (defBody (inClass (topS 22) 6)) (defScope (inClass (topS 22) 6)) .none kVp_bottom dcp_bottom pmp_bottom anp_bottom cdp_bottom ctp_bottom), slp_bottom⟩)
    (cp_bottom : PySem.W.codeIn K cdp_bottom "Number.bottom" = true)
    (kp_bottom : PySem.W.keepIn K (.ref fp_bottom) = true)
    (ap_sign : PySem.W.findIn K (.ref CN) "sign" = some (some (.ref dp_sign)))
    (sp_sign : PySem.W.specialIn K (.ref dp_sign) "__get__" = some (some (.builtin "property.__get__")))
    (tp_sign : PySem.W.takesIn K (.ref dp_sign) = some true)
    (rp_sign : PySem.W.recIn K dp_sign "property" = some (.ref fp_sign :: rsp_sign))
    (lp_sign : K.lookup fp_sign = some ⟨ocp_sign, odp_sign, .func (PySem.W.fnOf "sign" "Number.sign" (defArgs (inClass (topS 22) 7)) (defBody (inClass (topS 22) 7)) (defScope (inClass (topS 22) 7)) .none kVp_sign dcp_sign pmp_sign anp_sign cdp_sign ctp_sign), slp_sign⟩)
    (cp_sign : PySem.W.codeIn K cdp_sign "Number.sign" = true)
    (kp_sign : PySem.W.keepIn K (.ref fp_sign) = true)
    (ap_floor : PySem.W.findIn K (.ref CN) "floor" = some (some (.ref dp_floor)))
    (sp_floor : PySem.W.specialIn K (.ref dp_floor) "__get__" = some (some (.builtin "property.__get__")))
    (tp_floor : PySem.W.takesIn K (.ref dp_floor) = some true)
    (rp_floor : PySem.W.recIn K dp_floor "property" = some (.ref fp_floor :: rsp_floor))
    (lp_floor : K.lookup fp_floor = some ⟨ocp_floor, odp_floor, .func (PySem.W.fnOf "floor" "Number.floor" (defArgs (inClass (topS 22) 8)) (defBody (inClass (topS 22) 8)) (defScope (inClass (topS 22) 8)) .none kVp_floor dcp_floor pmp_floor anp_floor cdp_floor ctp_floor), slp_floor⟩)
    (cp_floor : PySem.W.codeIn K cdp_floor "Number.floor" = true)
    (kp_floor : PySem.W.keepIn K (.ref fp_floor) = true)
    (ap_mirror : PySem.W.findIn K (.ref CN) "mirror" = some (some (.ref dp_mirror)))
    (sp_mirror : PySem.W.specialIn K (.ref dp_mirror) "__get__" = some (some (.builtin "property.__get__")))
    (tp_mirror : PySem.W.takesIn K (.ref dp_mirror) = some true)
    (rp_mirror : PySem.W.recIn K dp_mirror "property" = some (.ref fp_mirror :: rsp_mirror))
    (lp_mirror : K.lookup fp_mirror = some ⟨ocp_mirror, odp_mirror, .func (PySem.W.fnOf "mirror" "Number.mirror" (defArgs (inClass (topS 22) 9)) (defBody (inClass (topS 22) 9)) (defScope (inClass (topS 22) 9)) .none kVp_mirror dcp_mirror pmp_mirror anp_mirror cdp_mirror ctp_mirror), slp_mirror⟩)
    (cp_mirror : PySem.W.codeIn K cdp_mirror "Number.mirror" = true)
    (kp_mirror : PySem.W.keepIn K (.ref fp_mirror) = true)
    (ap_norm : PySem.W.findIn K (.ref CN) "norm" = some (some (.ref dp_norm)))
    (sp_norm : PySem.W.specialIn K (.ref dp_norm) "__get__" = some (some (.builtin "property.__get__")))
    (tp_norm : PySem.W.takesIn K (.ref dp_norm) = some true)
    (rp_norm : PySem.W.recIn K dp_norm "property" = some (.ref fp_norm :: rsp_norm))
    (lp_norm : K.lookup fp_norm = some ⟨ocp_norm, odp_norm, .func (PySem.W.fnOf "norm" "Number.norm" (defArgs (inClass (topS 22) 10)) (defBody (inClass (topS 22) 10)) (defScope (inClass (topS 22) 10)) .none kVp_norm dcp_norm pmp_norm anp_norm cdp_norm ctp_norm), slp_norm⟩)
    (cp_norm : PySem.W.codeIn K cdp_norm "Number.norm" = true)
    (kp_norm : PySem.W.keepIn K (.ref fp_norm) = true)
    : ∀ base : Heap, K.In base → base.Ns mainGlobals mg → FnG prog w K mg base 22 fa 1 (spLaw K) := by
  have e := hfa.symm.trans (PySem.W.mg_of X G at26)
  cases e
  intro base _ _
  have fr : Free mg := ⟨PySem.W.mg_none_of X G z_abs, PySem.W.mg_none_of X G z_all, PySem.W.mg_none_of X G z_bool, PySem.W.mg_none_of X G z_int, PySem.W.mg_none_of X G z_isinstance, PySem.W.mg_none_of X G z_len, PySem.W.mg_none_of X G z_max, PySem.W.mg_none_of X G z_min, PySem.W.mg_none_of X G z_range, PySem.W.mg_none_of X G z_repr, PySem.W.mg_none_of X G z_str⟩
  have T : NTxt K mg CN CF := ⟨PySem.W.mg_of X G aN, PySem.W.mg_of X G aF, ⟨pgN, icN, poN, saN⟩, ⟨pgF, icF, poF, saF⟩, ⟨caN, cn, ct, cmN⟩, ⟨caF, cn, ct, cmF⟩,
    ⟨_, saNtop, sgNtop, stNtop, syNtop, sxNtop, by decide⟩, ⟨_, saNpart, sgNpart, stNpart, syNpart, sxNpart, by decide⟩, ⟨_, saNroot, sgNroot, stNroot, syNroot, sxNroot, by decide⟩, ⟨_, saNbottom, sgNbottom, stNbottom, syNbottom, sxNbottom, by decide⟩, ⟨_, saFtop, sgFtop, stFtop, syFtop, sxFtop, by decide⟩, ⟨_, saFpart, sgFpart, stFpart, syFpart, sxFpart, by decide⟩, ⟨_, saFroot, sgFroot, stFroot, syFroot, sxFroot, by decide⟩, ⟨_, saFbottom, sgFbottom, stFbottom, syFbottom, sxFbottom, by decide⟩, kit_self, kit_self, kit_own rfl icF tyF suF, kit_own rfl icN tyN suN, kit_bi (by decide +kernel) suI⟩
  have Ft0 := fun_mk (st := topS 7) lt0 ct0 kt0
  have Bt0 := Ft0.binds (ps := ["value"]) fun _ _ _ _ _ _ us hl => match us, hl with | [_], _ => rfl
  have Ft1 := fun_mk (st := topS 8) lt1 ct1 kt1
  have Bt1 := Ft1.binds (ps := ["one", "other"]) fun _ _ _ _ _ _ us hl => match us, hl with | [_, _], _ => rfl
  have Ft2 := fun_mk (st := topS 9) lt2 ct2 kt2
  have Bt2 := Ft2.binds (ps := ["square"]) fun _ _ _ _ _ _ us hl => match us, hl with | [_], _ => rfl
  have Ft3 := fun_mk (st := topS 15) lt3 ct3 kt3
  have Bt3 := Ft3.binds (ps := ["value"]) fun _ _ _ _ _ _ us hl => match us, hl with | [_], _ => rfl
  have Ft4 := fun_mk (st := topS 16) lt4 ct4 kt4
  have Bt4 := Ft4.binds (ps := ["value"]) fun _ _ _ _ _ _ us hl => match us, hl with | [_], _ => rfl
  have Ft5 := fun_mk (st := topS 17) lt5 ct5 kt5
  have Bt5 := Ft5.binds (ps := ["top", "part", "root"]) fun _ _ _ _ _ _ us hl => match us, hl with | [_, _, _], _ => rfl
  have Ft6 := fun_mk (st := topS 18) lt6 ct6 kt6
  have Bt6 := Ft6.binds (ps := ["top", "part", "root", "bottom"]) fun _ _ _ _ _ _ us hl => match us, hl with | [_, _, _, _], _ => rfl
  have Ft7 := fun_mk (st := topS 21) lt7 ct7 kt7
  have Bt7 := Ft7.binds (ps := ["top", "part", "root", "bottom"]) fun _ _ _ _ _ _ us hl => match us, hl with | [_, _, _, _], _ => rfl
  have Ft8 := fun_mk (st := topS 23) lt8 ct8 kt8
  have Bt8 := Ft8.binds (ps := ["value"]) fun _ _ _ _ _ _ us hl => match us, hl with | [_], _ => rfl
  have Ft9 := fun_mk (st := topS 24) lt9 ct9 kt9
  have Bt9 := Ft9.binds (ps := ["value"]) fun _ _ _ _ _ _ us hl => match us, hl with | [_], _ => rfl
  have Ft10 := fun_mk (st := topS 25) lt10 ct10 kt10
  have Bt10 := Ft10.binds (ps := ["value"]) fun _ _ _ _ _ _ us hl => match us, hl with | [_], _ => rfl
  have Ft11 := fun_mk (st := topS 26) lt11 ct11 kt11
  have Bt11 := Ft11.binds (ps := ["one", "other"]) fun _ _ _ _ _ _ us hl => match us, hl with | [_, _], _ => rfl
  have Ft12 := fun_mk (st := topS 31) lt12 ct12 kt12
  have Bt12 := Ft12.binds (ps := ["_law_script", "_law_spot"]) fun _ _ _ _ _ _ us hl => match us, hl with | [_, _], _ => rfl
  have Ft13 := fun_mk (st := topS 32) lt13 ct13 kt13
  have Bt13 := Ft13.binds (ps := ["_law_dice_here", "_law_total"]) fun _ _ _ _ _ _ us hl => match us, hl with | [_, _], _ => rfl
  have Ft14 := fun_mk (st := topS 33) lt14 ct14 kt14
  have Bt14 := Ft14.binds (ps := ["_law_dice_here", "_law_items"]) fun _ _ _ _ _ _ us hl => match us, hl with | [_, _], _ => rfl
  have Ft15 := fun_mk (st := topS 34) lt15 ct15 kt15
  have Bt15 := Ft15.binds (ps := ["_law_pair", "_law_root"]) fun _ _ _ _ _ _ us hl => match us, hl with | [_, _], _ => rfl
  have Ft16 := fun_mk (st := topS 35) lt16 ct16 kt16
  have Bt16 := Ft16.binds (ps := ["_law_one", "_law_other"]) fun _ _ _ _ _ _ us hl => match us, hl with | [_, _], _ => rfl
  have Ft17 := fun_mk (st := topS 36) lt17 ct17 kt17
  have Bt17 := Ft17.binds (ps := ["_law_top", "_law_part", "_law_root", "_law_bottom"]) fun _ _ _ _ _ _ us hl => match us, hl with | [_, _, _, _], _ => rfl
  have Ft18 := fun_mk (st := topS 37) lt18 ct18 kt18
  have Bt18 := Ft18.binds (ps := ["_law_dice_here", "_law_root"]) fun _ _ _ _ _ _ us hl => match us, hl with | [_, _], _ => rfl
  have Ft19 := fun_mk (st := topS 38) lt19 ct19 kt19
  have Bt19 := Ft19.binds (ps := ["_law_parts"]) fun _ _ _ _ _ _ us hl => match us, hl with | [_], _ => rfl
  have Ft20 := fun_mk (st := topS 39) lt20 ct20 kt20
  have Bt20 := Ft20.binds (ps := ["_law_number"]) fun _ _ _ _ _ _ us hl => match us, hl with | [_], _ => rfl
  have Ft21 := fun_mk (st := topS 40) lt21 ct21 kt21
  have Bt21 := Ft21.binds (ps := ["_law_one", "_law_other", "_law_root"]) fun _ _ _ _ _ _ us hl => match us, hl with | [_, _, _], _ => rfl
  have Ft22 := fun_mk (st := topS 41) lt22 ct22 kt22
  have Bt22 := Ft22.binds (ps := ["_law_one", "_law_other", "_law_root"]) fun _ _ _ _ _ _ us hl => match us, hl with | [_, _, _], _ => rfl
  have Ft23 := fun_mk (st := topS 42) lt23 ct23 kt23
  have Bt23 := Ft23.binds (ps := ["_law_number", "_law_form_here"]) fun _ _ _ _ _ _ us hl => match us, hl with | [_, _], _ => rfl
  have Ft24 := fun_mk (st := topS 43) lt24 ct24 kt24
  have Bt24 := Ft24.binds (ps := ["_law_one", "_law_other", "_law_forms", "_law_root"]) fun _ _ _ _ _ _ us hl => match us, hl with | [_, _, _, _], _ => rfl
  have Ft25 := fun_mk (st := topS 44) lt25 ct25 kt25
  have Bt25 := Ft25.binds (ps := ["_law_dice_here"]) fun _ _ _ _ _ _ us hl => match us, hl with | [_], _ => rfl
  have Ft26 := fun_mk (st := topS 45) lt26 ct26 kt26
  have Bt26 := Ft26.binds (ps := ["_law_script"]) fun _ _ _ _ _ _ us hl => match us, hl with | [_], _ => rfl
  have G_is_whole : GD prog w K mg base "is_whole" 2 (spIsWhole K) := ⟨_, _, _, PySem.W.mg_of X G at0, kt0, Bt0, ok_is_whole Ft0 fr⟩
  have G_greatest_divisor : GD prog w K mg base "greatest_divisor" 2 spGcd := ⟨_, _, _, PySem.W.mg_of X G at1, kt1, Bt1, ok_gcd Ft1⟩
  have G_whole_root : GD prog w K mg base "whole_root" 2 spRoot := ⟨_, _, _, PySem.W.mg_of X G at2, kt2, Bt2, ok_whole_root Ft2⟩
  have G_is_root : GD prog w K mg base "is_root" 3 spIsRoot := ⟨_, _, _, PySem.W.mg_of X G at3, kt3, Bt3, ok_is_root Ft3 fr ⟨_, PySem.W.mg_of X G gMAX_ROOT⟩ ⟨_, PySem.W.mg_of X G gLEAST_ROOT⟩ G_whole_root G_is_whole⟩
  have G_sign_of : GD prog w K mg base "sign_of" 2 spSign := ⟨_, _, _, PySem.W.mg_of X G at4, kt4, Bt4, ok_sign_of Ft4 fr⟩
  have G_sign_of_sum : GD prog w K mg base "sign_of_sum" 3 spSignSum := ⟨_, _, _, PySem.W.mg_of X G at5, kt5, Bt5, ok_sign_of_sum Ft5 G_sign_of⟩
  have G_floor_of : GD prog w K mg base "floor_of" 3 spFloor := ⟨_, _, _, PySem.W.mg_of X G at6, kt6, Bt6, ok_floor_of Ft6 G_whole_root⟩
  have Ffi := fun_mk (st := (inClass (topS 20) 1)) lfi cfi kfi
  have Bfi := Ffi.binds (ps := ["self", "top", "part", "root", "bottom"]) fun _ _ _ _ _ _ us hl => match us, hl with | [_, _, _, _, _], _ => rfl
  have G_Form : GM prog w K mg base "Form" CF 3 [] (spFormI CF) := ⟨_, _, _, _, PySem.W.mg_of X G aF, ⟨mkF, afi, ifi, kcF⟩, Bfi, .nil, ok_form_init Ffi fr T G_greatest_divisor⟩
  have G_form_in : GD prog w K mg base "form_in" 5 (spFormIn CF) := ⟨_, _, _, PySem.W.mg_of X G at7, kt7, Bt7, ok_form_in Ft7 fr T G_is_whole G_is_root G_Form⟩
  have Fni : FunD K "__init__" "Number.__init__" (defArgs (inClass (topS 22) 1)) (defBody (inClass (topS 22) 1)) (defScope (inClass (topS 22) 1)) [.int 0] [("root", .int 0), ("bottom", .int 1)] fni _ := ⟨⟨ocni, odni, .ref aT, .ref aD, dcni, pmni, anni, cdni, ctni, slni, rfl, lni, cni, .inr ⟨by simp, aT, _, [.int 0 tk0], mT, rfl, lT, rfl, .cons ⟨_, rfl⟩ .nil⟩, .inr ⟨aD, rfl, num_kwd nDr nDb⟩⟩, kni⟩
  have okN := ok_num_init (P := prog) (w := w) (base := base) Fni T G_form_in
  obtain ⟨ds, rds, Bni⟩ := num_binds Fni
  obtain ⟨its, Kni⟩ := num_kbinds Fni
  have MkN : Mk K CN fni := ⟨mkN, ani, ini, kcN⟩
  have G_Number : GM prog w K mg base "Number" CN 6 [.int 0, .int 0, .int 1] (spNumI CN CF) := ⟨_, _, _, _, PySem.W.mg_of X G aN, MkN, Bni, rds, okN⟩
  have G_NumberK : GMK prog w K mg base "Number" CN 6 2 ["root", "bottom"] (spNumI CN CF) := ⟨_, _, _, _, PySem.W.mg_of X G aN, MkN, Kni, okN⟩
  have G_is_like_number : GD prog w K mg base "is_like_number" 3 (spLike CN) := ⟨_, _, _, PySem.W.mg_of X G at8, kt8, Bt8, ok_is_like Ft8 fr T G_is_whole⟩
  have G_number_of : GD prog w K mg base "number_of" 8 (spNumOf CN) := ⟨_, _, _, PySem.W.mg_of X G at9, kt9, Bt9, ok_number_of Ft9 fr T G_Form G_Number⟩
  have G_required : GD prog w K mg base "required" 9 (spNumOf CN) := ⟨_, _, _, PySem.W.mg_of X G at10, kt10, Bt10, ok_required Ft10 G_is_like_number G_number_of⟩
  have G_common_root : GD prog w K mg base "common_root" 2 (spCommon CN) := ⟨_, _, _, PySem.W.mg_of X G at11, kt11, Bt11, ok_common_root Ft11 T⟩
  have Fadd := fun_mk (st := (inClass (topS 22) 13)) ladd cadd kadd
  have Badd := Fadd.binds (ps := ["self", "other"]) fun _ _ _ _ _ _ us hl => match us, hl with | [_, _], _ => rfl
  have G_add : GB prog w K mg base CN .Add 9 (spBin CN addN fun _ _ => True) := ⟨⟨_, aadd, iadd, fnR_of (ok_add Fadd fr T G_is_like_number G_number_of G_common_root G_Form G_Number) Badd⟩, sfN, ⟨_, _, _, rcadd, .inl rfl, foadd, roadd, suN⟩⟩
  have Fsub := fun_mk (st := (inClass (topS 22) 14)) lsub csub ksub
  have Bsub := Fsub.binds (ps := ["self", "other"]) fun _ _ _ _ _ _ us hl => match us, hl with | [_, _], _ => rfl
  have G_sub : GB prog w K mg base CN .Sub 9 (spBin CN subN fun _ _ => True) := ⟨⟨_, asub, isub, fnR_of (ok_sub Fsub fr T G_is_like_number G_number_of G_common_root G_Form G_Number) Bsub⟩, sfN, ⟨_, _, _, rcsub, .inl rfl, fosub, rosub, suN⟩⟩
  have Fmul := fun_mk (st := (inClass (topS 22) 15)) lmul cmul kmul
  have Bmul := Fmul.binds (ps := ["self", "other"]) fun _ _ _ _ _ _ us hl => match us, hl with | [_, _], _ => rfl
  have G_mul : GB prog w K mg base CN .Mult 9 (spBin CN mulN fun _ _ => True) := ⟨⟨_, amul, imul, fnR_of (ok_mul Fmul fr T G_is_like_number G_number_of G_common_root G_Form G_Number) Bmul⟩, sfN, ⟨_, _, _, rcmul, .inl rfl, fomul, romul, suN⟩⟩
  have Fover := fun_mk (st := (inClass (topS 22) 12)) lover cover kover
  have Bover := Fover.binds (ps := ["self", "other"]) fun _ _ _ _ _ _ us hl => match us, hl with | [_, _], _ => rfl
  have M_over : GMe prog w K mg base CN "over" 10 (spBin CN overN fun a b => sizeN a b ≠ 0) := ⟨_, ⟨aover, iover, kover⟩, fnR_of (ok_over Fover fr T G_required G_common_root G_Form G_Number) Bover⟩
  have Fneg := fun_mk (st := (inClass (topS 22) 16)) lneg cneg kneg
  have Bneg := Fneg.binds (ps := ["self"]) fun _ _ _ _ _ _ us hl => match us, hl with | [_], _ => rfl
  have G_neg : GN prog w K mg base CN 8 (spUn CN negN) := ⟨_, aneg, ineg, fnR_of (ok_neg Fneg T G_Form G_Number) Bneg⟩
  have Feq := fun_mk (st := (inClass (topS 22) 17)) leq ceq keq
  have Beq := Feq.binds (ps := ["self", "other"]) fun _ _ _ _ _ _ us hl => match us, hl with | [_, _], _ => rfl
  have G_eq : GE prog w K mg base CN 2 (spEq K CN) := ⟨⟨_, aeq, ieq, fnR_of (ok_eq Feq fr T) Beq⟩, ne, cmN⟩
  have Fp_top := fun_mk (st := (inClass (topS 22) 3)) lp_top cp_top kp_top
  have Bp_top := Fp_top.binds (ps := ["self"]) fun _ _ _ _ _ _ us hl => match us, hl with | [_], _ => rfl
  have P_top : GP prog w K mg base CN "top" 2 (spInt0 CN fun n => n.t) := ⟨_, _, ap_top, sp_top, tp_top, ⟨_, rp_top⟩, fnR_of (ok_p_top Fp_top T) Bp_top⟩
  have Fp_part := fun_mk (st := (inClass (topS 22) 4)) lp_part cp_part kp_part
  have Bp_part := Fp_part.binds (ps := ["self"]) fun _ _ _ _ _ _ us hl => match us, hl with | [_], _ => rfl
  have P_part : GP prog w K mg base CN "part" 2 (spInt0 CN fun n => n.p) := ⟨_, _, ap_part, sp_part, tp_part, ⟨_, rp_part⟩, fnR_of (ok_p_part Fp_part T) Bp_part⟩
  have Fp_root := fun_mk (st := (inClass (topS 22) 5)) lp_root cp_root kp_root
  have Bp_root := Fp_root.binds (ps := ["self"]) fun _ _ _ _ _ _ us hl => match us, hl with | [_], _ => rfl
  have P_root : GP prog w K mg base CN "root" 2 (spInt0 CN fun n => n.r) := ⟨_, _, ap_root, sp_root, tp_root, ⟨_, rp_root⟩, fnR_of (ok_p_root Fp_root T) Bp_root⟩
  have Fp_bottom := fun_mk (st := (inClass (topS 22) 6)) lp_bottom cp_bottom kp_bottom
  have Bp_bottom := Fp_bottom.binds (ps := ["self"]) fun _ _ _ _ _ _ us hl => match us, hl with | [_], _ => rfl
  have P_bottom : GP prog w K mg base CN "bottom" 2 (spInt0 CN fun n => n.b) := ⟨_, _, ap_bottom, sp_bottom, tp_bottom, ⟨_, rp_bottom⟩, fnR_of (ok_p_bottom Fp_bottom T) Bp_bottom⟩
  have Fp_sign := fun_mk (st := (inClass (topS 22) 7)) lp_sign cp_sign kp_sign
  have Bp_sign := Fp_sign.binds (ps := ["self"]) fun _ _ _ _ _ _ us hl => match us, hl with | [_], _ => rfl
  have P_sign : GP prog w K mg base CN "sign" 4 (spInt CN fun n => sgnSum n.t n.p n.r) := ⟨_, _, ap_sign, sp_sign, tp_sign, ⟨_, rp_sign⟩, fnR_of (ok_sign Fp_sign T G_sign_of_sum) Bp_sign⟩
  have Fp_floor := fun_mk (st := (inClass (topS 22) 8)) lp_floor cp_floor kp_floor
  have Bp_floor := Fp_floor.binds (ps := ["self"]) fun _ _ _ _ _ _ us hl => match us, hl with | [_], _ => rfl
  have P_floor : GP prog w K mg base CN "floor" 4 (spInt CN fun n => floorN n.t n.p n.r n.b) := ⟨_, _, ap_floor, sp_floor, tp_floor, ⟨_, rp_floor⟩, fnR_of (ok_floor Fp_floor T G_floor_of) Bp_floor⟩
  have Fp_mirror := fun_mk (st := (inClass (topS 22) 9)) lp_mirror cp_mirror kp_mirror
  have Bp_mirror := Fp_mirror.binds (ps := ["self"]) fun _ _ _ _ _ _ us hl => match us, hl with | [_], _ => rfl
  have P_mirror : GP prog w K mg base CN "mirror" 8 (spUn CN mirN) := ⟨_, _, ap_mirror, sp_mirror, tp_mirror, ⟨_, rp_mirror⟩, fnR_of (ok_mirror Fp_mirror T G_Form G_Number) Bp_mirror⟩
  have Fp_norm := fun_mk (st := (inClass (topS 22) 10)) lp_norm cp_norm kp_norm
  have Bp_norm := Fp_norm.binds (ps := ["self"]) fun _ _ _ _ _ _ us hl => match us, hl with | [_], _ => rfl
  have P_norm : GP prog w K mg base CN "norm" 8 (spUn CN normN) := ⟨_, _, ap_norm, sp_norm, tp_norm, ⟨_, rp_norm⟩, fnR_of (ok_norm Fp_norm T G_Form G_Number) Bp_norm⟩
  have G__law_dice : GD prog w K mg base "_law_dice" 2 (spDice K) := ⟨_, _, _, PySem.W.mg_of X G at12, kt12, Bt12, ok_dice Ft12 fr⟩
  have G__law_roll : GD prog w K mg base "_law_roll" 2 spRoll := ⟨_, _, _, PySem.W.mg_of X G at13, kt13, Bt13, ok_roll Ft13 fr⟩
  have G__law_pick : GD prog w K mg base "_law_pick" 3 spPick := ⟨_, _, _, PySem.W.mg_of X G at14, kt14, Bt14, ok_pick Ft14 fr G__law_roll⟩
  have G__law_sign : GD prog w K mg base "_law_sign" 2 spLSign := ⟨_, _, _, PySem.W.mg_of X G at15, kt15, Bt15, ok_lsign Ft15 fr⟩
  have G__law_common : GD prog w K mg base "_law_common" 2 spLCommon := ⟨_, _, _, PySem.W.mg_of X G at16, kt16, Bt16, ok_lcommon Ft16 fr⟩
  have G__law_least : GD prog w K mg base "_law_least" 3 spLLeast := ⟨_, _, _, PySem.W.mg_of X G at17, kt17, Bt17, ok_lleast Ft17 fr G__law_common⟩
  have G__law_parts_drawn : GD prog w K mg base "_law_parts_drawn" 4 spParts := ⟨_, _, _, PySem.W.mg_of X G at18, kt18, Bt18, ok_lparts Ft18 fr G__law_roll G__law_pick⟩
  have G__law_made : GD prog w K mg base "_law_made" 8 (spMade CN) := ⟨_, _, _, PySem.W.mg_of X G at19, kt19, Bt19, ok_lmade Ft19 fr G_NumberK⟩
  have G__law_form : GD prog w K mg base "_law_form" 4 (spLForm CN) := ⟨_, _, _, PySem.W.mg_of X G at20, kt20, Bt20, ok_lform Ft20 T P_top P_part P_root P_bottom⟩
  have G__law_added : GD prog w K mg base "_law_added" 4 (spLAdd lAddN) := ⟨_, _, _, PySem.W.mg_of X G at21, kt21, Bt21, ok_ladded Ft21 fr G__law_least⟩
  have G__law_multiplied : GD prog w K mg base "_law_multiplied" 4 (spLAdd lMulN) := ⟨_, _, _, PySem.W.mg_of X G at22, kt22, Bt22, ok_lmultiplied Ft22 fr G__law_least⟩
  have G__law_alone_right : GG prog w K mg base "_law_alone_right" 20 2 (spAlone CN) := ⟨_, PySem.W.mg_of X G at23, kt23, ok_lalone Ft23 Bt23 fr T G__law_form G__law_sign G__law_least P_sign P_floor P_mirror P_norm G_neg⟩
  have G__law_two_right : GG prog w K mg base "_law_two_right" 20 4 (spTwo CN) := ⟨_, PySem.W.mg_of X G at24, kt24, ok_ltwo Ft24 Bt24 fr T G__law_form G__law_least G__law_added G__law_multiplied G_add G_sub G_mul M_over G_eq⟩
  have G__law_right : GG prog w K mg base "_law_right" 21 1 spRight := ⟨_, PySem.W.mg_of X G at25, kt25, ok_lright Ft25 Bt25 fr T G__law_roll G__law_pick G__law_least G__law_parts_drawn G__law_made G__law_alone_right G__law_two_right G_Number P_mirror P_norm G_add G_sub G_mul M_over G_eq⟩
  exact ok_law Ft26 Bt26 fr T G__law_dice G__law_right G_Number G_NumberK P_root G_add G_sub G_mul M_over G_eq

theorem walk_k {l : PySem.W.OpenLaw} {n k : Nat} {q : Program} {loose : List Str} {XP : (Str → Option Value) → Heap → Prop} {YP : World → Heap → Prop} {d : DefRec} {K : Params → PySem.W.Frag} {sp : PySem.W.Frag → Sp}
    (hn : l.most = some n) (hn2 : n ≤ sizeLine) (hdf : d.params.defaults = []) (hr : Room k callerA) (hY : ∀ (w : World) (h : Heap), YP w h → (K w.params).In h)
    (hsp : ∀ (K : PySem.W.Frag) (G : Hp) (a : Addr) (ns : List Int), ns.length ≤ n → Only G → SqL K G a (ns.map V.int) → sp K [.ref a] G (fun v _ => v = .bl true) E0)
    (F : ∀ (w : World) (mg : Str → Option Value) (fa : Addr) (h : Heap), (K w.params).In h → h.Ns mainGlobals mg → mg d.name = some (.ref fa) → ∀ base : Heap, (K w.params).In base → base.Ns mainGlobals mg → FnG l.prog w (K w.params) mg base k fa 1 (sp (K w.params))) :
    PySem.W.WalkO q loose XP YP l.row.toRowW d [] (fun f vs => PySem.call f vs) :=
  walk_g hn hn2 hdf hr fun w mg fa h Y G hmg => ⟨K w.params, sp (K w.params), hY w h Y, hsp _, F w mg fa h (hY w h Y) G hmg⟩
end PF

open PySem PySem.W PyProof.Rows in
set_option maxRecDepth 100000 in
set_option maxHeartbeats 0 in
theorem PySem.Challenge.cw_pieceround_k02_whole_numbers_reckoned_holds : PySem.Challenge.rw_pieceround_k02_whole_numbers_reckoned.Holds := by
  w_on; o_law; k_head; (case hw => w_witness2)
  k_fill
  refine PF.walk_k (l := PySem.Challenge.rw_pieceround_k02_whole_numbers_reckoned) (n := 63) (k := 22) (sp := PF.spLaw) rfl (by decide) rfl ⟨rfl, by decide, by decide⟩ (fun w h Y => PySem.W.kIn_of Y) (fun K G a ns hl _ hS => ⟨a, ns, rfl, hS, Nat.le_trans hl (by decide), fun _ => rfl⟩) ?F
  case F =>
    intro w mg fa h KX G hmg
    refine' PF.all_mk KX G hmg ?aN ?aF ?at0 ?lt0 ?ct0 ?kt0 ?at1 ?lt1 ?ct1 ?kt1 ?at2 ?lt2 ?ct2 ?kt2 ?at3 ?lt3 ?ct3 ?kt3 ?at4 ?lt4 ?ct4 ?kt4 ?at5 ?lt5 ?ct5 ?kt5 ?at6 ?lt6 ?ct6 ?kt6 ?at7 ?lt7 ?ct7 ?kt7 ?at8 ?lt8 ?ct8 ?kt8 ?at9 ?lt9 ?ct9 ?kt9 ?at10 ?lt10 ?ct10 ?kt10 ?at11 ?lt11 ?ct11 ?kt11 ?at12 ?lt12 ?ct12 ?kt12 ?at13 ?lt13 ?ct13 ?kt13 ?at14 ?lt14 ?ct14 ?kt14 ?at15 ?lt15 ?ct15 ?kt15 ?at16 ?lt16 ?ct16 ?kt16 ?at17 ?lt17 ?ct17 ?kt17 ?at18 ?lt18 ?ct18 ?kt18 ?at19 ?lt19 ?ct19 ?kt19 ?at20 ?lt20 ?ct20 ?kt20 ?at21 ?lt21 ?ct21 ?kt21 ?at22 ?lt22 ?ct22 ?kt22 ?at23 ?lt23 ?ct23 ?kt23 ?at24 ?lt24 ?ct24 ?kt24 ?at25 ?lt25 ?ct25 ?kt25 ?at26 ?lt26 ?ct26 ?kt26 ?gMAX_ROOT ?gLEAST_ROOT ?z__ ?z_abs ?z_all ?z_bool ?z_int ?z_isinstance ?z_len ?z_max ?z_min ?z_range ?z_repr ?z_str ?pgN ?icN ?poN ?saN ?caN ?cmN ?mkN ?kcN ?pgF ?icF ?poF ?saF ?caF ?cmF ?mkF ?kcF ?cn ?ct ?saNtop ?sgNtop ?stNtop ?syNtop ?sxNtop ?saNpart ?sgNpart ?stNpart ?syNpart ?sxNpart ?saNroot ?sgNroot ?stNroot ?syNroot ?sxNroot ?saNbottom ?sgNbottom ?stNbottom ?syNbottom ?sxNbottom ?saFtop ?sgFtop ?stFtop ?syFtop ?sxFtop ?saFpart ?sgFpart ?stFpart ?syFpart ?sxFpart ?saFroot ?sgFroot ?stFroot ?syFroot ?sxFroot ?saFbottom ?sgFbottom ?stFbottom ?syFbottom ?sxFbottom ?tyN ?tyF ?suF ?suI ?afi ?lfi ?cfi ?kfi ?ifi ?ani ?lni ?cni ?kni ?ini ?lT ?nDr ?nDb ?aadd ?ladd ?cadd ?kadd ?iadd ?rcadd ?foadd ?roadd ?asub ?lsub ?csub ?ksub ?isub ?rcsub ?fosub ?rosub ?amul ?lmul ?cmul ?kmul ?imul ?rcmul ?fomul ?romul ?sfN ?suN ?aover ?lover ?cover ?kover ?iover ?aneg ?lneg ?cneg ?kneg ?ineg ?aeq ?leq ?ceq ?keq ?ieq ?ne ?ap_top ?sp_top ?tp_top ?rp_top ?lp_top ?cp_top ?kp_top ?ap_part ?sp_part ?tp_part ?rp_part ?lp_part ?cp_part ?kp_part ?ap_root ?sp_root ?tp_root ?rp_root ?lp_root ?cp_root ?kp_root ?ap_bottom ?sp_bottom ?tp_bottom ?rp_bottom ?lp_bottom ?cp_bottom ?kp_bottom ?ap_sign ?sp_sign ?tp_sign ?rp_sign ?lp_sign ?cp_sign ?kp_sign ?ap_floor ?sp_floor ?tp_floor ?rp_floor ?lp_floor ?cp_floor ?kp_floor ?ap_mirror ?sp_mirror ?tp_mirror ?rp_mirror ?lp_mirror ?cp_mirror ?kp_mirror ?ap_norm ?sp_norm ?tp_norm ?rp_norm ?lp_norm ?cp_norm ?kp_norm
    (case aN => k_is)
    (case aF => k_is)
    (case at0 => k_is)
    (case lt0 => k_is)
    (case ct0 => k_is)
    (case kt0 => k_is)
    (case at1 => k_is)
    (case lt1 => k_is)
    (case ct1 => k_is)
    (case kt1 => k_is)
    (case at2 => k_is)
    (case lt2 => k_is)
    (case ct2 => k_is)
    (case kt2 => k_is)
    (case at3 => k_is)
    (case lt3 => k_is)
    (case ct3 => k_is)
    (case kt3 => k_is)
    (case at4 => k_is)
    (case lt4 => k_is)
    (case ct4 => k_is)
    (case kt4 => k_is)
    (case at5 => k_is)
    (case lt5 => k_is)
    (case ct5 => k_is)
    (case kt5 => k_is)
    (case at6 => k_is)
    (case lt6 => k_is)
    (case ct6 => k_is)
    (case kt6 => k_is)
    (case at7 => k_is)
    (case lt7 => k_is)
    (case ct7 => k_is)
    (case kt7 => k_is)
    (case at8 => k_is)
    (case lt8 => k_is)
    (case ct8 => k_is)
    (case kt8 => k_is)
    (case at9 => k_is)
    (case lt9 => k_is)
    (case ct9 => k_is)
    (case kt9 => k_is)
    (case at10 => k_is)
    (case lt10 => k_is)
    (case ct10 => k_is)
    (case kt10 => k_is)
    (case at11 => k_is)
    (case lt11 => k_is)
    (case ct11 => k_is)
    (case kt11 => k_is)
    (case at12 => k_is)
    (case lt12 => k_is)
    (case ct12 => k_is)
    (case kt12 => k_is)
    (case at13 => k_is)
    (case lt13 => k_is)
    (case ct13 => k_is)
    (case kt13 => k_is)
    (case at14 => k_is)
    (case lt14 => k_is)
    (case ct14 => k_is)
    (case kt14 => k_is)
    (case at15 => k_is)
    (case lt15 => k_is)
    (case ct15 => k_is)
    (case kt15 => k_is)
    (case at16 => k_is)
    (case lt16 => k_is)
    (case ct16 => k_is)
    (case kt16 => k_is)
    (case at17 => k_is)
    (case lt17 => k_is)
    (case ct17 => k_is)
    (case kt17 => k_is)
    (case at18 => k_is)
    (case lt18 => k_is)
    (case ct18 => k_is)
    (case kt18 => k_is)
    (case at19 => k_is)
    (case lt19 => k_is)
    (case ct19 => k_is)
    (case kt19 => k_is)
    (case at20 => k_is)
    (case lt20 => k_is)
    (case ct20 => k_is)
    (case kt20 => k_is)
    (case at21 => k_is)
    (case lt21 => k_is)
    (case ct21 => k_is)
    (case kt21 => k_is)
    (case at22 => k_is)
    (case lt22 => k_is)
    (case ct22 => k_is)
    (case kt22 => k_is)
    (case at23 => k_is)
    (case lt23 => k_is)
    (case ct23 => k_is)
    (case kt23 => k_is)
    (case at24 => k_is)
    (case lt24 => k_is)
    (case ct24 => k_is)
    (case kt24 => k_is)
    (case at25 => k_is)
    (case lt25 => k_is)
    (case ct25 => k_is)
    (case kt25 => k_is)
    (case at26 => k_is)
    (case lt26 => k_is)
    (case ct26 => k_is)
    (case kt26 => k_is)
    (case gMAX_ROOT => k_is)
    (case gLEAST_ROOT => k_is)
    (case z__ => k_is)
    (case z_abs => k_is)
    (case z_all => k_is)
    (case z_bool => k_is)
    (case z_int => k_is)
    (case z_isinstance => k_is)
    (case z_len => k_is)
    (case z_max => k_is)
    (case z_min => k_is)
    (case z_range => k_is)
    (case z_repr => k_is)
    (case z_str => k_is)
    (case pgN => k_is)
    (case icN => k_is)
    (case poN => k_is)
    (case saN => k_is)
    (case caN => k_is)
    (case cmN => k_is)
    (case mkN => k_is)
    (case kcN => k_is)
    (case pgF => k_is)
    (case icF => k_is)
    (case poF => k_is)
    (case saF => k_is)
    (case caF => k_is)
    (case cmF => k_is)
    (case mkF => k_is)
    (case kcF => k_is)
    (case cn => k_is)
    (case ct => k_is)
    (case saNtop => k_is)
    (case sgNtop => k_is)
    (case stNtop => k_is)
    (case syNtop => k_is)
    (case sxNtop => k_is)
    (case saNpart => k_is)
    (case sgNpart => k_is)
    (case stNpart => k_is)
    (case syNpart => k_is)
    (case sxNpart => k_is)
    (case saNroot => k_is)
    (case sgNroot => k_is)
    (case stNroot => k_is)
    (case syNroot => k_is)
    (case sxNroot => k_is)
    (case saNbottom => k_is)
    (case sgNbottom => k_is)
    (case stNbottom => k_is)
    (case syNbottom => k_is)
    (case sxNbottom => k_is)
    (case saFtop => k_is)
    (case sgFtop => k_is)
    (case stFtop => k_is)
    (case syFtop => k_is)
    (case sxFtop => k_is)
    (case saFpart => k_is)
    (case sgFpart => k_is)
    (case stFpart => k_is)
    (case syFpart => k_is)
    (case sxFpart => k_is)
    (case saFroot => k_is)
    (case sgFroot => k_is)
    (case stFroot => k_is)
    (case syFroot => k_is)
    (case sxFroot => k_is)
    (case saFbottom => k_is)
    (case sgFbottom => k_is)
    (case stFbottom => k_is)
    (case syFbottom => k_is)
    (case sxFbottom => k_is)
    (case tyN => k_is)
    (case tyF => k_is)
    (case suF => k_is)
    (case suI => k_is)
    (case afi => k_is)
    (case lfi => k_is)
    (case cfi => k_is)
    (case kfi => k_is)
    (case ifi => k_is)
    (case ani => k_is)
    (case lni => k_is)
    (case cni => k_is)
    (case kni => k_is)
    (case ini => k_is)
    (case lT => k_is)
    (case nDr => k_is)
    (case nDb => k_is)
    (case aadd => k_is)
    (case ladd => k_is)
    (case cadd => k_is)
    (case kadd => k_is)
    (case iadd => k_is)
    (case rcadd => k_is)
    (case foadd => k_is)
    (case roadd => k_is)
    (case asub => k_is)
    (case lsub => k_is)
    (case csub => k_is)
    (case ksub => k_is)
    (case isub => k_is)
    (case rcsub => k_is)
    (case fosub => k_is)
    (case rosub => k_is)
    (case amul => k_is)
    (case lmul => k_is)
    (case cmul => k_is)
    (case kmul => k_is)
    (case imul => k_is)
    (case rcmul => k_is)
    (case fomul => k_is)
    (case romul => k_is)
    (case sfN => k_is)
    (case suN => k_is)
    (case aover => k_is)
    (case lover => k_is)
    (case cover => k_is)
    (case kover => k_is)
    (case iover => k_is)
    (case aneg => k_is)
    (case lneg => k_is)
    (case cneg => k_is)
    (case kneg => k_is)
    (case ineg => k_is)
    (case aeq => k_is)
    (case leq => k_is)
    (case ceq => k_is)
    (case keq => k_is)
    (case ieq => k_is)
    (case ne => k_is)
    (case ap_top => k_is)
    (case sp_top => k_is)
    (case tp_top => k_is)
    (case rp_top => k_is)
    (case lp_top => k_is)
    (case cp_top => k_is)
    (case kp_top => k_is)
    (case ap_part => k_is)
    (case sp_part => k_is)
    (case tp_part => k_is)
    (case rp_part => k_is)
    (case lp_part => k_is)
    (case cp_part => k_is)
    (case kp_part => k_is)
    (case ap_root => k_is)
    (case sp_root => k_is)
    (case tp_root => k_is)
    (case rp_root => k_is)
    (case lp_root => k_is)
    (case cp_root => k_is)
    (case kp_root => k_is)
    (case ap_bottom => k_is)
    (case sp_bottom => k_is)
    (case tp_bottom => k_is)
    (case rp_bottom => k_is)
    (case lp_bottom => k_is)
    (case cp_bottom => k_is)
    (case kp_bottom => k_is)
    (case ap_sign => k_is)
    (case sp_sign => k_is)
    (case tp_sign => k_is)
    (case rp_sign => k_is)
    (case lp_sign => k_is)
    (case cp_sign => k_is)
    (case kp_sign => k_is)
    (case ap_floor => k_is)
    (case sp_floor => k_is)
    (case tp_floor => k_is)
    (case rp_floor => k_is)
    (case lp_floor => k_is)
    (case cp_floor => k_is)
    (case kp_floor => k_is)
    (case ap_mirror => k_is)
    (case sp_mirror => k_is)
    (case tp_mirror => k_is)
    (case rp_mirror => k_is)
    (case lp_mirror => k_is)
    (case cp_mirror => k_is)
    (case kp_mirror => k_is)
    (case ap_norm => k_is)
    (case sp_norm => k_is)
    (case tp_norm => k_is)
    (case rp_norm => k_is)
    (case lp_norm => k_is)
    (case cp_norm => k_is)
    (case kp_norm => k_is)
