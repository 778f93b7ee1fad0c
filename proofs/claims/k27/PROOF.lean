import PyProof.Rows.All
import Wide.All
import OpenK.AllK
import Wide.FinOn
import HandS.ForMost
import HandS.ForExc
import HandS.Flow
import HandS.Wide
import HandS.IsInst
import HandS.ExcCtx
import HandS.HotCalls
import HandS.ExcInit
import HandS.ExcField
import HandS.ExcIs
import HandS.WrittenGet
import HandS.HeadHook4
import HandS.HeadEnd
import HandS.HeadWalk
import HandS.Head2
import HandS.Codes
import HandS.Steps
import HandS.SortInts
import HandS.ExcInitHot
import HandS.Conv
import HandS.Iter
import HandS.Style
import PySem.Challenge.RW_toldoutside_k27_judged_layouts
set_option Elab.async false
set_option linter.all false
set_option maxRecDepth 100000
set_option maxHeartbeats 4000000
/-! CmA: operators that take any kind of value, own errors with an __init__, what a suite's callee sees of the error. -/
namespace L3
open PySem PySem.Spec PyProof.Rows L2

/-! ### operators by any values: one rule a sign, the value tells which way -/
section
variable {X : Cx}
/-- a + b: ints, new lists, texts, tuples -/
def rPlus (K : PySem.W.Frag) : R2 := fun x y H Q => rI0 (fun i j => .int (i + j)) x y H Q ∨ rCat x y H Q ∨ (∃ i j, x = .str i ∧ y = .str j ∧ i.length + j.length ≤ sizeLine ∧ Q (.str (i ++ j)) H)
theorem op_plus : OpR X (binaryOp .Add) (rPlus X.K) := OpR.or op_add (OpR.or op_cat op_add_str)
/-- a * b: wide ints, a list so many times -/
def rTimes : R2 := fun x y H Q => rI CMulW (fun i j => .int (i * j)) x y H Q ∨ rRep x y H Q
theorem op_times : OpR X (binaryOp .Mult) rTimes := OpR.or op_mulW op_rep
/-- a == b, a != b: scalars, data of any depth -/
def rSame (K : PySem.W.Frag) : R2 := fun x y H Q => rEq x y H Q ∨ rEqD K x y H Q
theorem op_same (hu : X.A.units + 64 < cLine) : OpR X (compareOp .Eq) (rSame X.K) := OpR.or op_eq (op_eqD hu)
def rOther (K : PySem.W.Frag) : R2 := fun x y H Q => rNe x y H Q ∨ rNeD K x y H Q
theorem op_other (hu : X.A.units + 64 < cLine) : OpR X (compareOp .NotEq) (rOther X.K) := OpR.or op_ne (op_neD hu)
/-- x[i] of a list, a tuple -/
def rAt (K : PySem.W.Frag) : R2 := fun x y H Q => rIxL K x y H Q ∨ rIxT K x y H Q
theorem ix_at : IxR X (rAt X.K) := IxR.or ix_list ix_tup
end
theorem hu64 {A : Around} {k : Nat} (hr : Room k A) : A.units + 64 < cLine := by have := hr.un; omega
theorem hu1 {A : Around} {k : Nat} (hr : Room k A) : A.units + 1 < cLine := by have := hr.un; omega
end L3
set_option maxRecDepth 100000
set_option maxHeartbeats 4000000
namespace L3
open PySem PySem.Spec PyProof.Rows L2

/-! ### C(e, ..) for an own error class with its own __init__, where the maker's context is None (nothing is handled) -/
theorem pmk_err {X : Cx} {CX : CXT} {x : Str} {e : Expr} {es : List Expr} {ta : TA} {p pos : Pos} {C fI : Addr} {k : Nat} {fd : FuncData} {ps : List Str} {sp : Sp} (T : OexC X.K C)
    (iC : PySem.W.findIn X.K (.ref C) "__init__" = some (some (.ref fI))) (tI : PySem.W.typeIn X.K (.ref fI) = some (.type "function"))
    (F1 : FnOk X.prog X.w X.K X.mg X.base CX k fI fd ps sp) (hr : Room (k + 1) X.A) (hb : Binds X.K fd ps []) (hx : Passes CX X (fun _ _ _ => False)) (hg : Gl X x) (hm : X.mg x = some (.ref C)) (ha : PA X (e :: es) ta)
    (hdb : (x == ("__debug__" : Str)) = false := by decide) (he : starEach (e :: es) X.env = (false, eval e X.env) :: starEach es X.env := by rfl) (hpl : (backTo pos (starEach es X.env)).any (·.1) = false := by rfl) :
    L2N.PMk X (.Call (.Name x p) (e :: es) [] pos) (tMkO C sp [] ta) := by
  intro pins s σ H Q I h
  have TC := T.cls
  obtain ⟨nm, q, N, bs, bm, sn, sub, ab, col, dd, k0, k1, k2, k3, k5, hC, hbm⟩ := TC
  refine wpAny_Call_Name_kw (ld_glob I hg hm ?_ hdb)
  have arg := ha.run pos pins s σ H _ I h
  refine PySem.W.callWith_K (h₀ := X.base) I.ok.mod.kin T.kC (thn arg fun us s1 hh => ?_) he hpl
  obtain ⟨vs, H1, I1, r1, hz, q1⟩ := hh
  refine ⟨I1.kIn, ?_⟩
  show wpAny _ _ (call (.ref C) us) _ _ _
  obtain ⟨hp, g, dr, tk, os⟩ := s1
  have below : hp.objs.size ≤ hp.objs.size + 1 := Nat.le_succ _
  have fresh : H1 (hp.objs.size + 1) = none := I1.hok.fresh below
  have wish := q1 (hp.objs.size + 1) fresh
  have old : ∀ b o, hp.get? b = some o → ((hp.push (PySem.W.kdv_tup us)).push (PySem.HandSPX.excO C hp.objs.size)).get? b = some o := fun b o e => Heap.get?_push_of_some _ (Heap.get?_push_of_some _ e)
  have there : ((hp.push (PySem.W.kdv_tup us)).push (PySem.HandSPX.excO C hp.objs.size)).get? (hp.objs.size + 1) = some (PySem.HandSPX.excO C hp.objs.size) := by heap_get
  have I2 : Inv X pins σ (upd H1 (hp.objs.size + 1) (exo (hp.objs.size + 1) C none)) ⟨(hp.push (PySem.W.kdv_tup us)).push (PySem.HandSPX.excO C hp.objs.size), g, dr, tk, os⟩ :=
    I1.laid (t' := tk) (a := hp.objs.size + 1) (o := exo (hp.objs.size + 1) C none) old below (exo_ok there)
  have r2 : Vals (V.ref (hp.objs.size + 1) :: (vs ++ [])) (Value.ref (hp.objs.size + 1) :: (us ++ [])) := .cons rfl (r1.append .nil)
  have len : (Value.ref (hp.objs.size + 1) :: us ++ []).length = ps.length := ((F1.len _ _ _ _ wish).symm.trans r2.length).symm
  have few : us.length ≤ sizeLine := by
    rw [← Paired.length r1, sizeLine_eq]
    omega
  have init := F1.run _ X.stack _ _ ⟨Value.ref (hp.objs.size + 1) :: us, []⟩ (Value.ref (hp.objs.size + 1) :: (us ++ [])) _ _ (fun _ _ _ => False) (hr.make C us []) (I2.env0.make C us [])
    (by have z := hb _ (Value.ref (hp.objs.size + 1) :: us) I2.kIn len; rw [List.cons_append] at z; exact z) r2 wish
  refine wpAny_call (PySem.HandSPX.call_own F.excBase_ValueError (fun Y => PySem.HandSPX.refsVE_contains Y bm hbm) (I1.kIn _ _ hC) (PySem.W.looks_findIn I1.kIn iC) (fun self => PySem.W.bind_fn I1.kIn self tI) few
    (codeAny_mono init fun r s' z => ?_))
  cases r with
  | error er => exact hx pins σ _ _ er s' I2 z
  | ok fl =>
    cases fl with
    | ret u =>
      obtain ⟨v, H2, os2, bare2, un2, hok2, rv, ev, d, fs, ea, ed, hd1, q2⟩ := z
      subst ev
      obtain ⟨h2, g2, d2, t2, os'⟩ := s'
      obtain ⟨t0, G, J, kG, ge, hoe, na⟩ := mk_end0 (d2 := d2) (t2 := t2) I1 below old un2 hok2 os2 bare2 ea ed hd1
      refine ⟨rv, ⟨hp.objs.size + 1, _, _, ⟨G, g2, d2, t2, os'⟩, _, .ref C, some d, rfl, J, kG, ge, hoe, ⟨rfl, rfl, fun vs hv => ?_⟩, rfl, rfl, na, rfl, bare2, raises_own T.exC T.tyC, q2⟩⟩
      cases hv
      rfl
    | next => exact z.elim
    | brk => exact z.elim
    | cont => exact z.elim

/-! ### a def called in a suite, the handled error p among its arguments: the promise may speak of p -/
abbrev SpP := Addr × Obj → Sp
structure FnP (P : Program) (w : World) (K : PySem.W.Frag) (mg : Str → Option Value) (base : Heap) (CX : CXT) (k : Nat) (f : Addr) (fd : FuncData) (ps : List Str) (sp : SpP) : Prop where
  len : ∀ p vs H Q E, sp p vs H Q E → vs.length = ps.length
  run : ∀ (p : Addr × Obj) (A : Around) (outer : List Env) (s : Shared) (H : Hp) (args : Args) (us : List Value) (vs : List V) (Q : VK) (E : XK), L2H.RoomH k A → L2H.Hot1 A p → L2H.PinOk outer H s p → Env0 P w K mg base A outer s H →
    BindsTo s fd args (ps.zip us) → Vals vs us → sp p vs H Q E → codeAny (model P w) A (.call (.ref f) args) (CR CX outer P w H s Q E) s
/-- a body by its reading, p at hand -/
theorem fnP_of {CX : CXT} {P : Program} {w : World} {K : PySem.W.Frag} {mg : Str → Option Value} {base : Heap} {k : Nat} {f : Addr} {name qual : Str} {params : Arguments} {body : List Stmt} {scope : Scope} {fd : FuncData} {N ps : List Str} {sp : SpP}
    (FD : FunD K name qual params body scope [] [] f fd) (S : FnScope N ps scope) (len : ∀ p vs H Q E, sp p vs H Q E → vs.length = ps.length)
    (hbody : ∀ (p : Addr × Obj) (cdv : Value) (A : Around) (outer : List Env) (s : Shared) (H : Hp) (vs : List V) (Q : VK) (E : XK), L2H.Hot1 A p → L2H.RoomH k (A.deeper (envOfC qual scope s.heap.objs.size f cdv)) → sp p vs H Q E →
      ∃ t, PSs (L2H.cxH CX P w K mg base N qual scope f cdv A outer s H E p) body t ∧ t { nx := fun _ H' => Q .non H', rt := Q } (L2.start N vs) H) :
    FnP P w K mg base CX (k + 1) f fd ps sp := by
  obtain ⟨oc, od, dV, kV, doc, pm, an, cdv, ct, osl, rfl, lk, hcd, _, _⟩ := FD.ex
  refine ⟨len, fun p A outer s H args us vs Q E hr hot hpin e0 hb r hsp => ?_⟩
  -- for this p alone the library's hot promise
  let sq : Sp := fun vs' H' Q' E' => vs' = vs ∧ H' = H ∧ Q' = Q ∧ E' = E
  have hl := len _ _ _ _ _ hsp
  have KX : K.In s.heap := e0.mod.kin.keeps fun b o e => (e0.bs b o e).1
  have lim : s.heap.NoLimit := e0.mod.nolimit.keeps fun b o e => (e0.bs b o e).1
  have kinds : ∀ y ∈ ps.zip us, scope.names.lookup y.1 = some .local ∨ (scope.names.lookup y.1 = some .cell ∧ ((cellsFrom (s.heap.objs.size + 1) scope.names []).lookup y.1).isSome = true) := fun ⟨n, v⟩ hy =>
    (S.par n (List.of_mem_zip hy).1).elim Or.inl fun q => Or.inr ⟨q, PySem.W.cellsFrom_some _ _ _ (Or.inl q)⟩
  refine codeAny_call_function hr.depth (KX _ _ lk) rfl S.co S.gen rfl (PySem.W.codeRec_of KX hcd) (hb _ _ _ _ ?_)
  refine wpAny_newFunctionEnv_cells S.kind kinds fun env he s1 x => ?_
  subst he
  refine ⟨lim.keeps x.toInCall.keep, codeAny_func ?_⟩
  obtain ⟨t, ht, hq⟩ := hbody p cdv A outer s H vs Q E hot (hr.deeper _) hsp
  have I := L2H.inv_startH (CX := CX) (E := E) S hpin e0 hl r x
  refine wpAny_mono (ht.run [] s1 (L2.start N vs) H _ I hq) (fun fl s' hs => ?_) fun e s' hs => hs
  cases fl with
  | ret u =>
    obtain ⟨v, σ', H', J, rv, q⟩ := hs
    exact ⟨v, H', J.os, J.bare, J.base, J.hok, rv, q⟩
  | next =>
    obtain ⟨σ', H', J, q⟩ := hs
    exact ⟨V.non, H', J.os, J.bare, J.base, J.hok, rfl, q⟩
  | brk =>
    obtain ⟨_, _, _, q⟩ := hs
    exact q.elim
  | cont =>
    obtain ⟨_, _, _, q⟩ := hs
    exact q.elim
/-- the call in the suite: f(e, ..), the error's object known -/
theorem pe_callP {X : Cx} {CX : CXT} {k : Nat} {f : Addr} {fd : FuncData} {ps : List Str} {sp : SpP} {E : L2.St → XK} {x : Str} {q pos : Pos} {e : Expr} {es : List Expr} {t : TA} {p : Addr × Obj}
    (FP : FnP X.prog X.w X.K X.mg X.base CX k f fd ps sp) (hr : L2H.RoomH k X.A) (hot : L2H.Hot1 X.A p) (hp : p ∈ X.pn) (hg : Gl X x) (hm : X.mg x = some (.ref f)) (hk : PySem.W.keepIn X.K (.ref f) = true) (hb : Binds X.K fd ps [])
    (hx : ∀ σ, PassesAt CX X σ (E σ)) (ha : PA X (e :: es) t) (hdb : (x == ("__debug__" : Str)) = false := by decide) (he : starEach (e :: es) X.env = (false, eval e X.env) :: starEach es X.env := by rfl)
    (hpl : (backTo pos (starEach es X.env)).any (·.1) = false := by rfl) : PE X (.Call (.Name x q) (e :: es) [] pos) (tCallS (sp p) E t) := by
  refine ⟨fun pins s σ H Q I h => ?_⟩
  refine wpAny_Call_Name_kw (ld_glob I hg hm ?_ hdb)
  refine PySem.W.callWith_K (h₀ := X.base) I.ok.mod.kin hk (thn (ha.run pos pins s σ H _ I h) fun us s1 hh => ?_) he hpl
  obtain ⟨vs, H1, I1, r, w⟩ := hh
  refine ⟨I1.kIn, ?_⟩
  have hl : us.length = ps.length := r.length.symm.trans (FP.len _ _ _ _ _ w)
  have b := hb s1 us I1.kIn (by rw [List.append_nil]; exact hl)
  rw [List.append_nil] at b
  have P1 := I1.pin p (List.mem_append_left _ hp)
  have hpin : L2H.PinOk X.stack H1 s1 p := ⟨P1.1, P1.2.1, fun hm => (List.mem_cons.mp (I1.stkSub p.1 hm)).elim P1.2.2.1 P1.2.2.2.1, P1.2.2.2.2⟩
  refine wpAny_call (codeAny_mono (FP.run p X.A X.stack s1 H1 ⟨us, []⟩ us vs Q (E σ) hr hot hpin I1.env0 b r w) fun r s' hq => ?_)
  cases r with
  | error e => exact hx σ pins H1 s1 e s' I1 hq
  | ok fl =>
    cases fl with
    | ret u => exact I1.after hq
    | next => exact hq.elim
    | brk => exact hq.elim
    | cont => exact hq.elim
end L3
namespace PySem.W
open PySem PySem.Spec PySem.Calls PyProof.Rows
section
variable {prog : Program} {w : World} {A : Around} {E : Value → Shared → Prop} {s : Shared} {K : Frag} {x D : Addr} {ox od : Obj}
/-- e.__class__ of an error of an own class that has a dict -/
theorem errClass {Q : Option Value → Shared → Prop} (C : L2.ExcC K D) (X : K.In s.heap) (I : InstAt s.heap x ox D (some od)) (h : Q (some (.ref D)) { s with toks := s.toks + 1 }) :
    wpAny (model prog w) A (getAttr? (.ref x) "__class__") Q E s := by
  have some_cls : (clsIn K D).isSome = true := by
    obtain ⟨cd, hc, _⟩ := any_some C.hd
    rw [hc]
    rfl
  have fnd : findObj K D (some od) "__class__" = some (.bind (.builtin "getset_descriptor.__get__") (.builtin "object.__class__")) := findObj_data some_cls C.ha C.hn C.ht
  obtain ⟨hp, g, d, t, os⟩ := s
  have T0 := I.type (M := model prog w)
  have T1 := looks_findIn (M := model prog w) X C.hg
  have T2 := looks_findIn (M := model prog w) X C.hk
  have T3 := looks_find (M := model prog w) X I fnd
  have isB : Looks (model prog w) hp (isInstance (.ref x) (.type "BaseException")) true := T0.andThen (looks_subIn X C.hs)
  have n0 : (false && onTheHeap (Value.builtin "BaseException.__getattribute__")) = false := rfl
  have n2 : (Value.builtin "BaseException.__getattribute__" == Value.builtin "object.__getattribute__") = false := by decide +kernel
  have n1 : (onTheHeap (Value.ref D) && Value.builtin "BaseException.__getattribute__" == Value.builtin "object.__getattribute__") = false := by rw [n2]; rfl
  unfold getAttr? getAttrBy? getAttrBy
  refine wpAny_bind (wpAny_mkText (wpAny_bind (wpAny_attempt (wpAny_holding (wpAny_bind (T0.at (wpAny_bind (T1.at ?_))))))))
  show wpAny _ _ (if (onTheHeap (Value.ref D) && Value.builtin "BaseException.__getattribute__" == Value.builtin "object.__getattribute__") = true then _ else _) _ _ _
  rw [n1, if_neg Bool.false_ne_true]
  unfold getAttrByItsOwn hookBefore
  refine wpAny_bind ?_
  rw [if_pos (show onTheHeap (Value.ref D) = true from rfl)]
  refine T2.at (wpAny_bind (wpAny_attempt (wpAny_holding ?_)))
  unfold callGetattribute
  rw [n0, if_neg Bool.false_ne_true]
  unfold boundAndCalled
  rw [PySem.F.excAttr_ValueError.ga.bind (.ref x)]
  refine wpAny_bind (wpAny_pure ?_)
  show wpAny _ _ (call (.builtin "BaseException.__getattribute__") [.ref x, .str "__class__" t]) _ _ _
  refine wpAny_call (codeAny_call_builtin PySem.F.excAttr_ValueError.ga.plain PySem.F.entry_bexc_ga (@check_slot (model prog w) _ _ ⟨hp, g, d, t + 1, os⟩ "BaseException.__getattribute__" "BaseException" "__getattribute__" (.ref x) [.str "__class__" t] [] _
    (by decide +kernel) (by decide +kernel) isB (PySem.F.args_bexc_ga (.ref x) (.str "__class__" t)) ?_))
  unfold Builtin.«object.__getattribute__»
  refine wpAny_bind (wpAny_of_eq (a := ((Value.ref x : Value), [Value.str "__class__" t])) (by first | rfl | (simp only [slotArgs]; rfl)) (wpAny_bind (wpAny_pure (wpAny_bind (T0.at (wpAny_bind (T3.at ?_)))))))
  show wpAny _ _ (holding [Value.builtin "object.__class__"] (call (.builtin "getset_descriptor.__get__") [.builtin "object.__class__", .ref x, .ref D]) >>= ret) _ _ _
  refine wpAny_bind (wpAny_holding (wpAny_call (class_get (s := ⟨hp, g, d, t + 1, os⟩) (ox := ox) (od := some od) X I C.hm (wpAny_pure ?_))))
  show wpAny _ _ (handedOut (.ref D)) _ _ _
  rw [handedOut_of (v := .ref D) rfl]
  first
    | exact wpAny_pure (wpAny_pure h)
    | exact wpAny_pure h
    | exact wpAny_pure (wpAny_bind (wpAny_pure (wpAny_pure h)))
theorem errKit (C : L2.ExcC K D) : KitX K (.ref x) (.ref D) (fun h => ∃ ox od, InstAt h x ox D (some od)) where
  ty := fun _ _ _ ⟨_, _, I⟩ => I.type
  it := fun _ _ X _ => by
    obtain ⟨cd, hc, _⟩ := any_some C.hd
    unfold clsIn at hc
    split at hc
    · rename_i c' d' cd' sl' ho
      intro A' Q' E' s' k q
      unfold isType loadHead
      exact wpAny_bind (wpAny_loadPart (k _ _ (X _ _ ho)) (wpAny_pure q))
    · cases hc
  ne := fun h tp dd its n sl X htp => by
    obtain ⟨cd, hc, _⟩ := any_some C.hd
    refine Bool.eq_false_iff.mpr fun q => ?_
    have e : D = tp := Value.ref.inj (beq_iff_eq.mp q)
    subst e
    unfold clsIn at hc
    split at hc
    · rename_i c' d' cd' sl' ho
      cases (X _ _ ho).symm.trans htp
    · cases hc
  ca := fun X ⟨_, _, I⟩ k => errClass C X I k
end
end PySem.W
namespace L3
open PySem PySem.Spec PyProof.Rows L2
/-- isinstance(e, c), e the pinned error with its dict at dd -/
def rIsP (K : PySem.W.Frag) (D a dd : Addr) : List V → Hp → VK → Prop := fun xs H Q => ∃ (c : V) (cv : Value) (b : Bool) (fs : List (Str × V)), xs = [.ref a, c] ∧ H dd = some (.xd fs) ∧ (∀ u, RelV c u → u = cv) ∧ PySem.W.kitOne K (.ref D) cv = some b ∧ Q (.bl b) H
theorem call_isP {X : Cx} {a D dd : Addr} {oe : Obj} (C : ExcC X.K D) (hz : oe.cls = .ref D ∧ oe.dict = some dd) (hf : ∃ vs, oe.data = .fields vs) (hp : (a, oe) ∈ X.pn) : CallR X (.builtin "isinstance") (rIsP X.K D a dd) := by
  intro pins s σ H xs us Q I r h
  obtain ⟨c, cv, b, fs, rfl, ed, hcv, e, q⟩ := h
  cases r with
  | cons rx rr =>
    cases rr with
    | cons rt rr =>
      cases rr
      cases rx
      have ec := hcv _ rt
      subst ec
      obtain ⟨hget, _⟩ := I.pin (a, oe) (List.mem_append.mpr (.inl hp))
      have hx : ObjOk X.prog X.w H s.heap dd (.xd fs) := I.hok dd _ ed
      obtain ⟨mA, hns, hr⟩ := hx
      obtain ⟨od, ho, _⟩ := lookIn_ns hns
      obtain ⟨vs, hv⟩ := hf
      have J : PySem.W.InstAt s.heap a oe D (some od) := by
        obtain ⟨oc, odd, oda, osl⟩ := oe
        obtain ⟨h1, h2⟩ := hz
        dsimp only at h1 h2 hv
        subst h1 h2 hv
        exact ⟨hget, rfl, rfl, ho⟩
      refine PySem.W.kia_one (H := fun h => ∃ ox od, PySem.W.InstAt h a ox D (some od)) (PySem.W.errKit C) I.kIn ⟨_, _, J⟩ e (fun z => nomatch z) fun tk => ⟨.bl b, H, I.kept (t' := tk) fun _ _ z => z, rfl, q⟩
/-- e.f of the pinned error -/
def tXp (D a dd : Addr) (f : Str) (te : TE) : TE := fun σ H Q => te σ H fun x H1 => x = .ref a ∧ ∃ (fs : List (Str × V)) (v : V), H1 dd = some (.xd fs) ∧ fs.lookup f = some v ∧ Q v H1
theorem pe_xp {X : Cx} {a D dd : Addr} {oe : Obj} {e : Expr} {te : TE} {pos : Pos} {n : Str} (T : XfC X.K D) (hno : PySem.W.findIn X.K (.ref D) n = some none) (hz : oe.cls = .ref D ∧ oe.dict = some dd) (hf : ∃ vs, oe.data = .fields vs) (hp : (a, oe) ∈ X.pn)
    (he : PE X e te) (hb : attributeBase e n X.env (eval e X.env) = eval e X.env := by rfl) : PE X (.Attribute e n pos) (tXp D a dd n te) := by
  refine ⟨fun pins s σ H Q I h => attr_of hb (thn (he.run pins s σ H _ I h) fun u s1 hh => ?_)⟩
  obtain ⟨x, H1, I1, rx, ex, fs, v, ea, l, q⟩ := hh
  subst ex
  obtain rfl : u = Value.ref a := rx
  obtain ⟨ha, _⟩ := I1.pin (a, oe) (List.mem_append_left _ hp)
  obtain ⟨vs, hd⟩ := hf
  have hx : ObjOk X.prog X.w H1 s1.heap dd (.xd fs) := I1.hok dd _ ea
  obtain ⟨mA, hns, hr⟩ := hx
  obtain ⟨od, ho, hl⟩ := lookIn_ns hns
  obtain ⟨u, hu, ru⟩ := RelO.some_of (v := v) (o := mA n) (by rw [← l]; exact hr n)
  have J : PySem.W.InstAt s1.heap a oe D (some od) := ⟨ha, hz.1, by unfold PySem.W.notCls; rw [hd] <;> rfl, by rw [hz.2]; exact ho⟩
  exact HandSPX.exc_get I1.kIn J T.ga T.gg T.exC (PySem.W.findObj_own T.hdC hno rfl (by rw [hl, hu])) (handed_of ru) ⟨v, H1, I1.tok _, ru, q⟩
end L3
set_option maxRecDepth 100000
set_option maxHeartbeats 4000000
/-! CmC: what the head tells of the error classes and of the table of bounds. -/
namespace L3
open PySem PySem.Spec PyProof.Rows L2 He

def oexB (K : PySem.W.Frag) (C : Addr) : Bool := (match K.lookup C with
  | some ⟨.type t, _, .cls cd, sl⟩ => (match cd.mro, sl.toList with
    | .ref C' :: bm, [_, _, _, _, some (.builtin n), _] => decide (t = "type") && (decide (C' = C) && (decide (n = "ValueError.__new__") && (!cd.hasDel && (cd.hasDict && PySem.HandSPX.refsVE bm))))
    | _, _ => false)
  | _ => false) && (eqO (PySem.W.findIn K (.ref C) "__setattr__") (some (some (.builtin "object.__setattr__"))) && (decide (PySem.W.subIn K (.ref C) (.type "BaseException") = some true) &&
    (decide (PySem.W.typeIn K (.ref C) = some (.type "type")) && PySem.W.keepIn K (.ref C))))
theorem oexB_ok {K : PySem.W.Frag} {C : Addr} (h : oexB K C = true) : OexC K C := by
  obtain ⟨h0, h⟩ := ba h
  obtain ⟨h1, h⟩ := ba h
  obtain ⟨h2, h⟩ := ba h
  obtain ⟨h3, h4⟩ := ba h
  refine ⟨?_, eqO_ok h1, of_decide_eq_true h2, of_decide_eq_true h3, h4⟩
  split at h0
  · rename_i t dd cd sl ho
    split at h0
    · rename_i C' bm k0 k1 k2 k3 n k5 hm hs
      obtain ⟨e1, h0⟩ := ba h0
      obtain ⟨e2, h0⟩ := ba h0
      obtain ⟨e3, h0⟩ := ba h0
      obtain ⟨e4, h0⟩ := ba h0
      obtain ⟨e5, e6⟩ := ba h0
      have e1 := of_decide_eq_true e1
      have e2 := of_decide_eq_true e2
      have e3 := of_decide_eq_true e3
      subst e1 e2 e3
      obtain ⟨nm, bs, mro, ns, qn, hd, sn, sub, ab, col, del⟩ := cd
      dsimp only at hm e4 e5
      subst hm e5
      have hdel : del = false := by cases del <;> first | rfl | cases e4
      subst hdel
      have hsl : sl = #[k0, k1, k2, k3, some (.builtin "ValueError.__new__"), k5] := by
        have : sl.toList.toArray = [k0, k1, k2, k3, some (.builtin "ValueError.__new__"), k5].toArray := congrArg List.toArray hs
        simpa using this
      subst hsl
      exact ⟨nm, qn, ns, bs, bm, sn, sub, ab, col, dd, k0, k1, k2, k3, k5, ho, e6⟩
    · cases h0
  · cases h0
def excB (K : PySem.W.Frag) (D : Addr) : Bool := xfB K D && (eqO (PySem.W.findIn K (.ref D) "__class__") (some (some (.builtin "object.__class__"))) &&
  (eqO (PySem.W.specialIn K (.builtin "object.__class__") "__get__") (some (some (.builtin "getset_descriptor.__get__"))) && (decide (PySem.W.takesIn K (.builtin "object.__class__") = some true) && decide (PySem.W.mroIn K D (.type "object") = some true))))
theorem excB_ok {K : PySem.W.Frag} {D : Addr} (h : excB K D = true) : ExcC K D ∧ XfC K D := by
  obtain ⟨h0, h⟩ := ba h
  obtain ⟨h1, h⟩ := ba h
  obtain ⟨h2, h⟩ := ba h
  obtain ⟨h3, h4⟩ := ba h
  have X := xfB_ok h0
  exact ⟨⟨X.ga, X.gg, X.exC, X.hdC, eqO_ok h1, eqO_ok h2, of_decide_eq_true h3, of_decide_eq_true h4⟩, X⟩
/-- an error class x of the text, its __init__ stores the names fs -/
structure ErrC (K : PySem.W.Frag) (x : Str) (fs : List Str) : Prop where
  o : OexC K (ga K x)
  e : ExcC K (ga K x)
  f : XfC K (ga K x)
  no : ∀ y ∈ fs, PySem.W.findIn K (.ref (ga K x)) y = some none
  iC : PySem.W.findIn K (.ref (ga K x)) "__init__" = some (some (.ref (ma K (ga K x) "__init__")))
  tI : PySem.W.typeIn K (.ref (ma K (ga K x) "__init__")) = some (.type "function")
def errB (K : PySem.W.Frag) (x : Str) (fs : List Str) : Bool := oexB K (ga K x) && (excB K (ga K x) && ((fs.all fun y => eqO (PySem.W.findIn K (.ref (ga K x)) y) (some none)) &&
  (eqO (PySem.W.findIn K (.ref (ga K x)) "__init__") (some (some (.ref (ma K (ga K x) "__init__")))) && decide (PySem.W.typeIn K (.ref (ma K (ga K x) "__init__")) = some (.type "function")))))
theorem errB_ok {K : PySem.W.Frag} {x : Str} {fs : List Str} (h : errB K x fs = true) : ErrC K x fs := by
  obtain ⟨h1, h⟩ := ba h
  obtain ⟨h2, h⟩ := ba h
  obtain ⟨h3, h⟩ := ba h
  obtain ⟨h4, h5⟩ := ba h
  obtain ⟨a, b⟩ := excB_ok h2
  exact ⟨oexB_ok h1, a, b, fun y hy => eqO_ok (List.all_eq_true.mp h3 y hy), eqO_ok h4, of_decide_eq_true h5⟩
/-- which error is of which class -/
def kitXB (K : PySem.W.Frag) (x y : Str) (b : Bool) : Bool := decide (PySem.W.kitOne K (.ref (ga K x)) (.ref (ga K y)) = some b)
def kitsB (K : PySem.W.Frag) (base : Str) (xs : List Str) : Bool := xs.all fun x => (xs.all fun y => kitXB K x y (decide (x = y))) && (kitXB K x base true && (decide (PySem.W.kitOne K (.ref (ga K x)) (.type "ValueError") = some true) &&
  decide (PySem.W.exmOne K (.ref (ga K x)) (.ref (ga K base)) = some true)))
structure Kits (K : PySem.W.Frag) (base : Str) (xs : List Str) : Prop where
  kit : ∀ x ∈ xs, ∀ y ∈ xs, PySem.W.kitOne K (.ref (ga K x)) (.ref (ga K y)) = some (decide (x = y))
  kitO : ∀ x ∈ xs, PySem.W.kitOne K (.ref (ga K x)) (.ref (ga K base)) = some true
  kitV : ∀ x ∈ xs, PySem.W.kitOne K (.ref (ga K x)) (.type "ValueError") = some true
  exm : ∀ x ∈ xs, PySem.W.exmOne K (.ref (ga K x)) (.ref (ga K base)) = some true
theorem kitsB_ok {K : PySem.W.Frag} {base : Str} {xs : List Str} (h : kitsB K base xs = true) : Kits K base xs := by
  have key := fun x hx => ba (List.all_eq_true.mp h x hx)
  refine ⟨fun x hx y hy => of_decide_eq_true (List.all_eq_true.mp (key x hx).1 y hy), fun x hx => of_decide_eq_true (ba (key x hx).2).1, fun x hx => of_decide_eq_true (ba (ba (key x hx).2).2).1, fun x hx => of_decide_eq_true (ba (ba (key x hx).2).2).2⟩
/-- a table of the top with text keys and ints -/
def tabB (K : PySem.W.Frag) (x : Str) (kvs : List (Str × Int)) : Bool := valsB K (ga K x) (kvs.map fun q => (q.1, Dv.int q.2))
theorem tabB_ok {K : PySem.W.Frag} {w : World} {x : Str} {kvs : List (Str × Int)} {es : Array DictEntry} {n : Nat} (h : tabB K x kvs = true) (D : KDict K w (ga K x) es n) {k : Str} {i : Int} (hq : (k, i) ∈ kvs) : KDct K w (ga K x) k (.int i) := by
  obtain ⟨u, hu, ru⟩ := valsB_ok h (q := (k, Dv.int i)) (List.mem_map.mpr ⟨(k, i), hq, rfl⟩)
  exact ⟨es, n, u, D.at_, D.lit, hu, ru⟩
end L3
namespace L3
open PySem PySem.Spec PyProof.Rows L2
/-- a law's promise: a list of at most 63 ints in, True out -/
def spLaw (K : PySem.W.Frag) : Sp := fun vs H Q _ => ∃ (a : Addr) (ns : List Int), vs = [.ref a] ∧ SqL K H a (ns.map V.int) ∧ ns.length ≤ 63 ∧ ∀ H', Q (.bl true) H'
theorem walk_law {l : PySem.W.OpenLaw} {k : Nat} {q : Program} {loose : List Str} {XP : (Str → Option Value) → Heap → Prop} {YP : World → Heap → Prop} {d : DefRec} (hn : l.most = some 63) (hdf : d.params.defaults = []) (hr : Room k callerA)
    (F : ∀ (w : World) (mg : Str → Option Value) (fa : Addr) (h : Heap), YP w h → h.Ns mainGlobals mg → mg d.name = some (.ref fa) →
      ∃ (K : PySem.W.Frag) (fd : FuncData), K.In h ∧ (∀ (s : Shared) (u : Value), BindsTo s fd ⟨[u], []⟩ [("script", u)]) ∧
        ∀ base : Heap, K.In base → base.Ns mainGlobals mg → FnOk l.prog w K mg base (L2N.CX l.prog w) k fa fd ["script"] (spLaw K)) :
    PySem.W.WalkO q loose XP YP l.row.toRowW d [] (fun f vs => PySem.call f vs) := by
  refine Att.attach_call hn hdf fun w s₀ s₁ mg mb fa o pm cd doc a vs ns G Y ho hd hcd hmg hobj hints hlen hg => ?_
  obtain ⟨K, fd, KX, hb, hF⟩ := F w mg fa _ Y G.T.g hmg
  refine law_call KX G.T.g G.T.b G.T.builtins G.T.nolimit hg hobj hints (Nat.le_trans hlen (by decide)) hr hF hb (fun H hO hS => ⟨a, ns, rfl, hS, hlen, fun _ => rfl⟩) fun H e s' z => ?_
  obtain ⟨_, _, _, _, _, _, _, _, _, _, _, _, z⟩ := z
  exact z
theorem cx_none {P : Program} {w : World} {l : List Env} {H : Hp} {s : Shared} {e : Value} {s' : Shared} (z : L2N.CX P w l H s (fun _ _ _ => False) e s') : False := by
  obtain ⟨_, _, _, _, _, _, _, _, _, _, _, _, z⟩ := z
  exact z
end L3
set_option maxRecDepth 100000
set_option maxHeartbeats 4000000
/-! CmD: defs as callees, readings step by step. -/
namespace L3
open PySem PySem.Spec PyProof.Rows L2 He

/-! ### a def of the module that keeps a promise -/
structure CalG (P : Program) (w : World) (K : PySem.W.Frag) (mg : Str → Option Value) (base : Heap) (k : Nat) (x : Str) (ps : List Str) (sp : Sp) : Prop where
  g : mg x = some (.ref (ga K x))
  ok : ∃ fd, FnOk P w K mg base (L2N.CX P w) k (ga K x) fd ps sp ∧ Binds K fd ps []
  kp : PySem.W.keepIn K (.ref (ga K x)) = true
theorem CalG.imp {P : Program} {w : World} {K : PySem.W.Frag} {mg : Str → Option Value} {base : Heap} {k : Nat} {x : Str} {ps : List Str} {sp sp' : Sp} (c : CalG P w K mg base k x ps sp) (h : ∀ vs H Q E, sp' vs H Q E → sp vs H Q E) : CalG P w K mg base k x ps sp' := by
  obtain ⟨fd, F, b⟩ := c.ok
  exact ⟨c.g, ⟨fd, F.imp h, b⟩, c.kp⟩
theorem CalG.mono {P : Program} {w : World} {K : PySem.W.Frag} {mg : Str → Option Value} {base : Heap} {j k : Nat} {x : Str} {ps : List Str} {sp : Sp} (c : CalG P w K mg base j x ps sp) (h : j ≤ k) : CalG P w K mg base k x ps sp := by
  obtain ⟨fd, F, b⟩ := c.ok
  exact ⟨c.g, ⟨fd, F.mono h, b⟩, c.kp⟩
section
variable {P : Program} {w : World} {K : PySem.W.Frag} {mg : Str → Option Value} {base : Heap}
/-- a def keeps its promise: its body's rules and their reading -/
theorem calG_of {x : Str} {st : Stmt} {N ps : List Str} {k : Nat} {sp : Sp} (hg : mg x = some (.ref (ga K x))) (D : ∃ fd, FunD K x x (defArgs st) (defBody st) (defScope st) [] [] (ga K x) fd) (S : FnScope N ps (defScope st))
    (hb : ∀ (dV kV doc pm : Value) (an : Option Addr) (cdv ct : Value) (us : List Value), us.length = ps.length → bindArgs (PySem.W.fnOf x x (defArgs st) (defBody st) (defScope st) .none kV doc pm an cdv ct) ⟨us, []⟩ = pure (ps.zip us))
    (len : ∀ vs H Q E, sp vs H Q E → vs.length = ps.length)
    (hbody : ∀ (cdv : Value) (A : Around) (outer : List Env) (s : Shared) (H : Hp) (vs : List V) (Q : VK) (E : XK), Room k (A.deeper (envOfC x (defScope st) s.heap.objs.size (ga K x) cdv)) → sp vs H Q E →
      ∃ t, PSs (cxOf (L2N.CX P w) P w K mg base N x (defScope st) (ga K x) cdv A outer s H E) (defBody st) t ∧ t { nx := fun _ H' => Q .non H', rt := Q } (start N vs) H) : CalG P w K mg base (k + 1) x ps sp := by
  obtain ⟨fd, F⟩ := D
  exact ⟨hg, ⟨fd, F.ok S len hbody, F.bindsN fun kV doc pm an cdv ct us hl => hb .none kV doc pm an cdv ct us hl⟩, F.kp⟩
end
section
variable {X : Cx} {W : L2.WX}
/-- x(e, ..) of such a def; what it raises is wished by W -/
theorem pe_cal {k j : Nat} {x : Str} {ps : List Str} {sp : Sp} {q pos : Pos} {e : Expr} {es : List Expr} {t : TA} (c : CalG X.prog X.w X.K X.mg X.base j x ps sp) (hr : Room k X.A) (hj : j ≤ k) (hx : ∀ σ, PassesAt (L2N.CX X.prog X.w) X σ (WE W σ)) (ha : PA X (e :: es) t) (hg : Gl X x := by rfl)
    (hdb : (x == ("__debug__" : Str)) = false := by decide) (he : starEach (e :: es) X.env = (false, eval e X.env) :: starEach es X.env := by rfl) (hpl : (backTo pos (starEach es X.env)).any (·.1) = false := by rfl) :
    PE X (.Call (.Name x q) (e :: es) [] pos) (tCallS sp (WE W) t) := by
  have z : ∃ fd, FnOk X.prog X.w X.K X.mg X.base (L2N.CX X.prog X.w) j (ga X.K x) fd ps sp ∧ Binds X.K fd ps [] := c.ok
  have key := Classical.choose_spec z
  exact pe_callS key.1 (hr.mono hj) hg c.g c.kp key.2 hx ha hdb he hpl
/-- nothing is let out -/
theorem passN (σ : L2.St) : PassesAt (L2N.CX X.prog X.w) X σ (WE (fun _ _ _ _ => False) σ) := fun _ _ _ e s' I c => by
  obtain ⟨_, _, _, _, _, _, _, _, _, _, _, _, z⟩ := c
  exact z.elim
theorem pe_gl {x : Str} {pos : Pos} {a : Addr} (hm : X.mg x = some (.ref a)) (hg : Gl X x := by rfl) (hdb : (x == ("__debug__" : Str)) = false := by decide) : PE X (.Name x pos) (tC (.ref a)) :=
  pe_glob hg hm rfl hdb
end

/-! ### readings, step by step: each from what is asked next -/
section
variable {σ σ' : L2.St} {H : Hp} {Q : VK} {D : Ends} {t u : TS} {te ta tb : TE} {g : TG} {v x y : V} {K : PySem.W.Frag}
variable {nx bk ct : L2.St → Hp → Prop} {rt : VK}
theorem r_seq (k : t ⟨u ⟨nx, rt, bk, ct⟩, rt, bk, ct⟩ σ H) : tSeq t u ⟨nx, rt, bk, ct⟩ σ H := k
theorem r_asgN {i : Nat} (k : te σ H fun x H1 => nx (σ.set i (some x)) H1) : tAsg te (gName i) ⟨nx, rt, bk, ct⟩ σ H := k
theorem r_asg (k : te σ H fun x H1 => g x σ H1 nx) : tAsg te g ⟨nx, rt, bk, ct⟩ σ H := k
theorem r_ret (k : te σ H rt) : tRet te ⟨nx, rt, bk, ct⟩ σ H := k
theorem r_retN (k : rt .non H) : tRetN ⟨nx, rt, bk, ct⟩ σ H := k
theorem r_next (k : nx σ H) : tNext ⟨nx, rt, bk, ct⟩ σ H := k
theorem r_brk (k : bk σ H) : tBreak ⟨nx, rt, bk, ct⟩ σ H := k
theorem r_cont (k : ct σ H) : tCont ⟨nx, rt, bk, ct⟩ σ H := k
theorem r_drop (k : te σ H fun _ H1 => nx σ H1) : tDrop te ⟨nx, rt, bk, ct⟩ σ H := k
theorem r_aug {i : Nat} {ti : TIp} (e : σ[i]? = some (some x)) (k : te σ H fun y H1 => ti x y H1 fun z H2 => nx (σ.set i (some z)) H2) : tAug i te ti ⟨nx, rt, bk, ct⟩ σ H := ⟨x, e, k⟩
theorem r_augS {to ti : TE} {tget : V → V → Hp → VK → Prop} {tip : TIp} {tset : TSet} (k : to σ H fun o H1 => ti σ H1 fun i H2 => tget o i H2 fun x H3 => te σ H3 fun y H4 => tip x y H4 fun z H5 => tset o i z H5 fun H6 => nx σ H6) :
    tAugS to ti te tget tip tset ⟨nx, rt, bk, ct⟩ σ H := k
theorem r_sub {to ti : TE} {ts : TSet} {P : L2.St → Hp → Prop} (k : to σ H fun o H1 => ti σ H1 fun i H2 => ts o i v H2 fun H3 => P σ H3) : gSub to ti ts v σ H P := k
theorem r_ifS {c : TT} (k : c σ H fun b H1 => if b = true then t D σ H1 else u D σ H1) : tIfS c t u D σ H := k
theorem r_if {c : TT} (k : c σ H fun b H1 => if b = true then ta σ H1 Q else tb σ H1 Q) : tIf c ta tb σ H Q := k
theorem r_var {i : Nat} (e : σ[i]? = some (some v)) (k : Q v H) : tVar i σ H Q := ⟨v, e, k⟩
theorem r_c (k : Q v H) : tC v σ H Q := k
theorem r_op {r : R2} (k : ta σ H fun x H1 => tb σ H1 fun y H2 => r x y H2 Q) : tOp r ta tb σ H Q := k
theorem r_un {r : V → Hp → VK → Prop} (k : ta σ H fun x H1 => r x H1 Q) : tUn r ta σ H Q := k
theorem r_test {P : Bool → Hp → Prop} (k : te σ H fun x H' => ∃ k, x = .bl k ∧ P k H') : tTest te σ H P := k
theorem r_B {P : Bool → Hp → Prop} (k : te σ H fun x H1 => ∃ c, x = .bl c ∧ P c H1) : tB te σ H P := k
theorem r_bl {b : Bool} {P : Bool → Prop} (k : P b) : ∃ c, V.bl b = .bl c ∧ P c := ⟨b, rfl, k⟩
theorem r_and {c d : TT} {P : Bool → Hp → Prop} (k : c σ H fun b H1 => if b = true then d σ H1 P else P false H1) : tAnd c d σ H P := k
theorem r_or {c d : TT} {P : Bool → Hp → Prop} (k : c σ H fun b H1 => if b = true then P true H1 else d σ H1 P) : tOr c d σ H P := k
theorem r_not {c : TT} {P : Bool → Hp → Prop} (k : c σ H fun b H1 => P (!b) H1) : tNot c σ H P := k
theorem r_andV (k : ta σ H fun x H1 => ∃ c, x = .bl c ∧ if c = true then tb σ H1 Q else Q (.bl false) H1) : tAndV ta tb σ H Q := k
theorem r_orV (k : ta σ H fun x H1 => ∃ c, x = .bl c ∧ if c = true then Q (.bl true) H1 else tb σ H1 Q) : tOrV ta tb σ H Q := k
theorem r_notV (k : ta σ H fun x H1 => ∃ c, x = .bl c ∧ Q (.bl (!c)) H1) : tNotV ta σ H Q := k
theorem r_nil {P : List V → Hp → Prop} (k : P [] H) : tNil σ H P := k
theorem r_cons {ta : TE} {tr : TA} {P : List V → Hp → Prop} (k : ta σ H fun x H1 => tr σ H1 fun xs H2 => P (x :: xs) H2) : tCons ta tr σ H P := k
theorem r_cb {r : List V → Hp → VK → Prop} {ta : TA} (k : ta σ H fun vs H1 => r vs H1 Q) : tCB r ta σ H Q := k
theorem r_callS {sp : Sp} {E : L2.St → XK} {ta : TA} (k : ta σ H fun vs H1 => sp vs H1 Q (E σ)) : tCallS sp E ta σ H Q := k
def NewL (xs : List V) (H1 : Hp) (Q : VK) : Prop := xs.length ≤ sizeLine ∧ ∀ p, H1 p = none → Q (.ref p) (upd H1 p (.lst xs))
def NewT (xs : List V) (H1 : Hp) (Q : VK) : Prop := xs.length ≤ sizeLine ∧ ∀ p, H1 p = none → Q (.ref p) (upd H1 p (.tup xs))
theorem r_tup {ta : TA} (k : ta σ H fun xs H1 => NewT xs H1 Q) : tTup ta σ H Q := k
theorem r_lst {ta : TA} (k : ta σ H fun xs H1 => NewL xs H1 Q) : tLst ta σ H Q := k
theorem r_bm {T : String} {r : V → List V → Hp → VK → Prop} {t : TA} (k : ta σ H fun x H1 => tyV K T x H1 ∧ t σ H1 fun xs H2 => r x xs H2 Q) : tBM K T r ta t σ H Q := k
theorem r_bm0 {T : String} {r : V → List V → Hp → VK → Prop} (k : ta σ H fun x H1 => tyV K T x H1 ∧ r x [] H1 Q) : tBM0 K T r ta σ H Q := k
theorem r_sl {r : V → Option Int → Option Int → Hp → VK → Prop} {tl th : TO} (k : te σ H fun x H1 => tl σ H1 fun l H2 => th σ H2 fun u H3 => r x l u H3 Q) : tSl r te tl th σ H Q := k
theorem r_noPart {P : Option Int → Hp → Prop} (k : P none H) : tNoPart σ H P := k
theorem r_part {P : Option Int → Hp → Prop} (k : te σ H fun x H1 => ∃ i, x = .int i ∧ P (some i) H1) : tPart te σ H P := k
theorem r_int {i : Int} {P : Int → Prop} (k : P i) : ∃ j, V.int i = .int j ∧ P j := ⟨i, rfl, k⟩
/-! leaves: ints -/
theorem r_I0 {g : Int → Int → V} {i j : Int} (k : Q (g i j) H) : rI0 g (.int i) (.int j) H Q := ⟨i, j, rfl, rfl, k⟩
theorem r_I {C : Int → Int → Prop} {g : Int → Int → V} {i j : Int} (c : C i j) (k : Q (g i j) H) : rI C g (.int i) (.int j) H Q := ⟨i, j, rfl, rfl, c, k⟩
theorem r_plusI {i j : Int} (k : Q (.int (i + j)) H) : rPlus K (.int i) (.int j) H Q := .inl ⟨i, j, rfl, rfl, k⟩
theorem r_timesI {i j : Int} (c : CMulW i j) (k : Q (.int (i * j)) H) : rTimes (.int i) (.int j) H Q := .inl ⟨i, j, rfl, rfl, c, k⟩
theorem r_neg {i : Int} (k : Q (.int (-i)) H) : rU (fun i => .int (-i)) (.int i) H Q := ⟨i, rfl, k⟩
theorem r_sameS (h : scal x y = true) (k : Q (.bl (decide (x = y))) H) : rSame K x y H Q := .inl ⟨h, k⟩
theorem r_otherS (h : scal x y = true) (k : Q (.bl (!decide (x = y))) H) : rOther K x y H Q := .inl ⟨h, k⟩
theorem r_isN (k : Q (.bl (decide (x = .non))) H) : (fun x y H Q => y = .non ∧ Q (.bl (decide (x = .non))) H : R2) x .non H Q := ⟨rfl, k⟩
/-! leaves: lists -/
theorem r_atL {p : Addr} {xs : List V} {i : Int} (h : SqL K H p xs) (e : atI xs i = some v) (k : Q v H) : rAt K (.ref p) (.int i) H Q := .inl ⟨p, xs, i, v, rfl, rfl, h, e, k⟩
theorem r_atT {p : Addr} {xs : List V} {i : Int} (h : SqT K H p xs) (e : atI xs i = some v) (k : Q v H) : rAt K (.ref p) (.int i) H Q := .inr ⟨p, xs, i, v, rfl, rfl, h, e, k⟩
/-- what is known of the heap behind a new object -/
def Ext (H H' : Hp) : Prop := ∀ a o, H a = some o → H' a = some o
theorem Ext.rfl {H : Hp} : Ext H H := fun _ _ h => h
theorem Ext.trans {H H1 H2 : Hp} (a : Ext H H1) (b : Ext H1 H2) : Ext H H2 := fun x o h => b x o (a x o h)
theorem Ext.new {H : Hp} {p : Addr} {o : HO} (h : H p = none) : Ext H (upd H p o) := fun a u e => by rw [upd_ne (ne_of_none e h)]; exact e
theorem Ext.mut {H H' : Hp} {p : Addr} {o : HO} (e : Ext H H') (h : H p = none) : Ext H (upd H' p o) := fun a u ha => by rw [upd_ne (ne_of_none ha h)]; exact e a u ha
theorem Ext.none {H H' : Hp} {p : Addr} (e : Ext H H') (h : H' p = none) : H p = none := by
  cases q : H p with
  | none => exact Eq.refl _
  | some o => rw [e p o q] at h; cases h
theorem Ext.l {H H' : Hp} {a : Addr} {xs : List V} (e : Ext H H') (h : SqL K H a xs) : SqL K H' a xs := by
  rcases h with (h | ⟨o, h⟩) | h
  · exact .inl (.inl (e _ _ h))
  · exact .inl (.inr ⟨o, e _ _ h⟩)
  · exact .inr h
theorem Ext.tu {H H' : Hp} {a : Addr} {xs : List V} (e : Ext H H') (h : SqT K H a xs) : SqT K H' a xs := by
  rcases h with (h | ⟨o, h⟩) | h
  · exact .inl (.inl (e _ _ h))
  · exact .inl (.inr ⟨o, e _ _ h⟩)
  · exact .inr h
theorem sqL {a : Addr} {xs : List V} (h : H a = some (.lst xs)) : SqL K H a xs := .inl (.inl h)
theorem sqT {a : Addr} {xs : List V} (h : H a = some (.tup xs)) : SqT K H a xs := .inl (.inl h)
theorem r_newL {xs : List V} (h : xs.length ≤ 100000) (k : ∀ p H', H p = none → Ext H H' → H' p = some (.lst xs) → Q (.ref p) H') : NewL xs H Q :=
  ⟨Nat.le_trans h (by decide), fun p hp => k p _ hp (Ext.new hp) upd_same⟩
theorem r_newT {xs : List V} (h : xs.length ≤ 100000) (k : ∀ p H', H p = none → Ext H H' → H' p = some (.tup xs) → Q (.ref p) H') : NewT xs H Q :=
  ⟨Nat.le_trans h (by decide), fun p hp => k p _ hp (Ext.new hp) upd_same⟩
/-- xs.append(v), the list at l the call's own (new since H0) -/
theorem r_app {l : Addr} {xs : List V} (h : H l = some (.lst xs)) (hz : xs.length < 100000) (k : ∀ H', H' l = some (.lst (xs ++ [v])) → (∀ b, b ≠ l → H' b = H b) → Q .non H') : rAppend (.ref l) [v] H Q :=
  ⟨l, xs, v, rfl, rfl, h, Nat.lt_of_lt_of_le hz (by decide), k _ upd_same fun b hb => upd_ne hb⟩
theorem r_popL {l : Addr} {xs : List V} (h : H l = some (.lst (xs ++ [v]))) (k : ∀ H', H' l = some (.lst xs) → (∀ b, b ≠ l → H' b = H b) → Q v H') : rPop (.ref l) [] H Q :=
  ⟨l, xs ++ [v], v, rfl, rfl, h, by simp, k _ (by rw [List.dropLast_concat]; exact upd_same) fun b hb => upd_ne hb⟩
theorem tyL {a : Addr} {xs : List V} (h : SqL K H a xs) : tyV K "list" (.ref a) H := .inl ⟨rfl, xs, h⟩
theorem mut_ext {H0 H H' : Hp} {l : Addr} (e : Ext H0 H) (h0 : H0 l = none) (m : ∀ b, b ≠ l → H' b = H b) : Ext H0 H' := fun a o ha => (m a (ne_of_none ha h0)).trans (e a o ha)
theorem mut_at {H H' : Hp} {l b : Addr} {o : HO} (m : ∀ b, b ≠ l → H' b = H b) (hb : b ≠ l) (h : H b = some o) : H' b = some o := (m b hb).trans h
/-! tests -/
theorem ite_d {p A B : Prop} [Decidable p] (h1 : p → A) (h2 : ¬ p → B) : if decide p = true then A else B := by
  by_cases h : p
  · rw [if_pos (decide_eq_true h)]; exact h1 h
  · rw [if_neg (by simpa using h)]; exact h2 h
theorem ite_n {p A B : Prop} [Decidable p] (h1 : ¬ p → A) (h2 : p → B) : if (!decide p) = true then A else B := by
  by_cases h : p
  · rw [if_neg (by simpa using h)]; exact h2 h
  · rw [if_pos (by simpa using h)]; exact h1 h
theorem ite_b {b : Bool} {A B : Prop} (h1 : b = true → A) (h2 : b = false → B) : if b = true then A else B := by
  cases b
  · exact h2 rfl
  · exact h1 rfl
theorem ite_t {A B : Prop} (h : A) : if true = true then A else B := h
theorem ite_f {A B : Prop} (h : B) : if false = true then A else B := h
end
end L3
namespace L3
open PySem PySem.Spec PyProof.Rows L2
/-- xs[i] ahead of xs[i] op= e, i from the front -/
def rGetL (K : PySem.W.Frag) : R2 := fun x y H Q => ∃ p xs i v, x = .ref p ∧ y = .int i ∧ SqL K H p xs ∧ 0 ≤ i ∧ xs[i.toNat]? = some v ∧ Q v H
theorem get_list {X : Cx} : PGet X (rGetL X.K) := by
  intro pins s σ H o i ov iv Q I ro ri h
  obtain ⟨p, xs, j, z, rfl, rfl, hq, h0, e, q⟩ := h
  cases ro
  obtain ⟨t, rfl⟩ := ri
  obtain ⟨its, r, pl, hz⟩ := I.list hq
  obtain ⟨w, ew, rw'⟩ := r.get e
  have hl := r.length
  have hn := line63
  have h5 : j.toNat < xs.length := (List.getElem?_eq_some_iff.mp e).1
  exact wpAny_getItem_list pl.isList h0 (by omega) (by simpa using ew) ⟨z, H, I, rw', q⟩
theorem r_getL {K : PySem.W.Frag} {H : Hp} {Q : VK} {p : Addr} {xs : List V} {i : Int} {v : V} (h : SqL K H p xs) (h0 : 0 ≤ i) (e : xs[i.toNat]? = some v) (k : Q v H) : rGetL K (.ref p) (.int i) H Q := ⟨p, xs, i, v, rfl, rfl, h, h0, e, k⟩
theorem r_ipI {f : Int → Int → Int} {H : Hp} {Q : VK} {i j : Int} (k : Q (.int (f i j)) H) : ipI f (.int i) (.int j) H Q := ⟨i, j, rfl, rfl, k⟩
theorem ixN_of {n j : Nat} (hj : j < n) : ixN n (j : Int) = some j := by
  unfold ixN
  rw [if_pos (by omega), if_pos (by omega)]
  simp
theorem r_setL {H : Hp} {P : Hp → Prop} {p : Addr} {xs : List V} {i : Int} {j : Nat} {v : V} (h : H p = some (.lst xs)) (hi : i = (j : Int)) (hj : j < xs.length) (k : ∀ H', H' p = some (.lst (xs.set j v)) → (∀ b, b ≠ p → H' b = H b) → P H') : rSetL (.ref p) (.int i) v H P :=
  ⟨p, xs, i, j, rfl, rfl, h, by rw [hi]; exact ixN_of hj, k _ upd_same fun b hb => upd_ne hb⟩
end L3
set_option maxRecDepth 100000
set_option maxHeartbeats 4000000
/-! CmE: own errors raised; the bounds; a source of draws. -/
namespace L3
open PySem PySem.Spec PyProof.Rows L2 He
/-! ### an error's __init__ that stores one name, two names -/
def spI1 (C : Addr) (f : Str) : Sp := fun vs H Q _ => ∃ (a : Addr) (v : V), vs = [.ref a, v] ∧ H a = some (exo a C none) ∧ ∀ dx, H dx = none → dx ≠ a → Q .non (upd (upd H dx (exd dx [(f, v)])) a (exo a C (some dx)))
def spI2 (C : Addr) (f g : Str) : Sp := fun vs H Q _ => ∃ (a : Addr) (u v : V), vs = [.ref a, u, v] ∧ H a = some (exo a C none) ∧ ∀ dx, H dx = none → dx ≠ a → Q .non (upd (upd (upd H dx (exd dx [(f, u)])) a (exo a C (some dx))) dx (exd dx [(g, v), (f, u)]))
abbrev ErrI (P : Program) (w : World) (K : PySem.W.Frag) (mg : Str → Option Value) (base : Heap) (x : Str) (ps : List Str) (sp : Sp) : Prop :=
  ∃ fd, FnOk P w K mg base (L2N.CX P w) 1 (ma K (ga K x) "__init__") fd ps sp ∧ Binds K fd ps []
section
variable {P : Program} {w : World} {K : PySem.W.Frag} {mg : Str → Option Value} {base : Heap}
theorem errI_of {x q : Str} {st : Stmt} {N ps : List Str} {sp : Sp} (D : ∃ fd, FunD K "__init__" q (defArgs st) (defBody st) (defScope st) [] [] (ma K (ga K x) "__init__") fd) (S : FnScope N ps (defScope st))
    (hb : ∀ (dV kV doc pm : Value) (an : Option Addr) (cdv ct : Value) (us : List Value), us.length = ps.length → bindArgs (PySem.W.fnOf "__init__" q (defArgs st) (defBody st) (defScope st) .none kV doc pm an cdv ct) ⟨us, []⟩ = pure (ps.zip us))
    (len : ∀ vs H Q E, sp vs H Q E → vs.length = ps.length)
    (hbody : ∀ (cdv : Value) (A : Around) (outer : List Env) (s : Shared) (H : Hp) (vs : List V) (Q : VK) (E : XK), Room 0 (A.deeper (envOfC q (defScope st) s.heap.objs.size (ma K (ga K x) "__init__") cdv)) → sp vs H Q E →
      ∃ t, PSs (cxOf (L2N.CX P w) P w K mg base N q (defScope st) (ma K (ga K x) "__init__") cdv A outer s H E) (defBody st) t ∧ t { nx := fun _ H' => Q .non H', rt := Q } (start N vs) H) : ErrI P w K mg base x ps sp := by
  obtain ⟨fd, F⟩ := D
  exact ⟨fd, F.ok S len hbody, F.bindsN fun kV doc pm an cdv ct us hl => hb .none kV doc pm an cdv ct us hl⟩
theorem pmk_errI {X : Cx} {x : Str} {fs ps : List Str} {sp : Sp} {e : Expr} {es : List Expr} {ta : TA} {p pos : Pos} {k : Nat} (EC : ErrC X.K x fs) (I : ErrI X.prog X.w X.K X.mg X.base x ps sp) (hr : Room k X.A) (hk : 2 ≤ k) (hm : X.mg x = some (.ref (ga X.K x))) (ha : PA X (e :: es) ta)
    (hg : Gl X x := by rfl) (hdb : (x == ("__debug__" : Str)) = false := by decide) (he : starEach (e :: es) X.env = (false, eval e X.env) :: starEach es X.env := by rfl) (hpl : (backTo pos (starEach es X.env)).any (·.1) = false := by rfl) :
    L2N.PMk X (.Call (.Name x p) (e :: es) [] pos) (tMkO (ga X.K x) sp [] ta) := by
  have key := Classical.choose_spec I
  exact pmk_err EC.o EC.iC EC.tI key.1 (hr.mono hk) key.2 (fun _ _ _ _ _ _ _ z => by
    obtain ⟨_, _, _, _, _, _, _, _, _, _, _, _, z⟩ := z
    exact z.elim) hg hm ha hdb he hpl
/-- the reading of self.f = v in such an __init__ -/
theorem r_ost1 {σ : L2.St} {H : Hp} {f : Str} {v : V} {a C : Addr} {nx bk ct : L2.St → Hp → Prop} {rt : VK} (ho : OexC K C) (hno : PySem.W.findIn K (.ref C) f = some none) (ea : H a = some (exo a C none)) {i j : Nat} (hi : σ[i]? = some (some (.ref a))) (hj : σ[j]? = some (some v))
    (k : ∀ dx, H dx = none → dx ≠ a → nx σ (upd (upd H dx (exd dx [(f, v)])) a (exo a C (some dx)))) : tOst K f (tVar i) (tVar j) ⟨nx, rt, bk, ct⟩ σ H :=
  ⟨v, hj, .ref a, hi, a, C, rfl, ho, hno, .inl ⟨ea, k⟩⟩
theorem r_ost2 {σ : L2.St} {H : Hp} {f : Str} {v : V} {a C dx : Addr} {fs : List (Str × V)} {nx bk ct : L2.St → Hp → Prop} {rt : VK} (ho : OexC K C) (hno : PySem.W.findIn K (.ref C) f = some none) (ea : H a = some (exo a C (some dx))) (ed : H dx = some (exd dx fs)) (hf : fs.length ≤ 900)
    {i j : Nat} (hi : σ[i]? = some (some (.ref a))) (hj : σ[j]? = some (some v)) (k : nx σ (upd H dx (exd dx ((f, v) :: fs)))) : tOst K f (tVar i) (tVar j) ⟨nx, rt, bk, ct⟩ σ H :=
  ⟨v, hj, .ref a, hi, a, C, rfl, ho, hno, .inr ⟨dx, fs, ea, ed, hf, k⟩⟩
theorem exo_ne_exd {a C dx : Addr} {d : Option Addr} {fs : List (Str × V)} {H : Hp} (ha : H a = none) (hd : upd H a (exo a C d) dx = none) : dx ≠ a := fun e => by
  rw [e, upd_same] at hd; cases hd
theorem err_heap {H : Hp} {a dx C : Addr} {u o : HO} (ha : H a = none) (hd : H dx = none) (hne : dx ≠ a) : Ext H (upd (del (upd (upd (upd H a u) dx o) a u) a) dx o) ∧ (upd (del (upd (upd (upd H a u) dx o) a u) a) dx o) dx = some o :=
  ⟨fun b q e => by rw [upd_ne (ne_of_none e hd), del_ne (ne_of_none e ha), upd_ne (ne_of_none e ha), upd_ne (ne_of_none e hd), upd_ne (ne_of_none e ha)]; exact e, upd_same⟩
/-- C(v): an error with its own dict, new -/
theorem r_mk1 {H : Hp} {C : Addr} {f : Str} {v : V} {E : XK} (k : ∀ d H', H d = none → Ext H H' → H' d = some (.xd [(f, v)]) → E (.ref C) (some d) H') :
    [v].length ≤ 1000 ∧ ∀ a, H a = none → spI1 C f (.ref a :: ([v] ++ [])) (upd H a (exo a C none)) (fun v' H2 => v' = .non ∧ ∃ (d : Addr) (fs : List (Str × V)), H2 a = some (exo a C (some d)) ∧ H2 d = some (exd d fs) ∧ H d = none ∧ E (.ref C) (some d) (upd (del H2 a) d (.xd fs))) (fun _ _ _ => False) := by
  refine ⟨by show 1 ≤ 1000; decide, fun a ha => ⟨a, v, rfl, upd_same, fun dx hd hne => ⟨rfl, dx, [(f, v)], upd_same, by rw [upd_ne hne, upd_same], ?_, ?_⟩⟩⟩
  · rw [upd_ne hne] at hd; exact hd
  · rw [upd_ne hne] at hd
    refine k dx _ hd (fun b q e => ?_) upd_same
    rw [upd_ne (ne_of_none e hd), del_ne (ne_of_none e ha), upd_ne (ne_of_none e ha), upd_ne (ne_of_none e hd), upd_ne (ne_of_none e ha)]
    exact e
theorem r_mk2 {H : Hp} {C : Addr} {f g : Str} {u v : V} {E : XK} (k : ∀ d H', H d = none → Ext H H' → H' d = some (.xd [(g, v), (f, u)]) → E (.ref C) (some d) H') :
    [u, v].length ≤ 1000 ∧ ∀ a, H a = none → spI2 C f g (.ref a :: ([u, v] ++ [])) (upd H a (exo a C none)) (fun v' H2 => v' = .non ∧ ∃ (d : Addr) (fs : List (Str × V)), H2 a = some (exo a C (some d)) ∧ H2 d = some (exd d fs) ∧ H d = none ∧ E (.ref C) (some d) (upd (del H2 a) d (.xd fs))) (fun _ _ _ => False) := by
  refine ⟨by show 2 ≤ 1000; decide, fun a ha => ⟨a, u, v, rfl, upd_same, fun dx hd hne => ⟨rfl, dx, [(g, v), (f, u)], by rw [upd_ne hne.symm, upd_same], upd_same, ?_, ?_⟩⟩⟩
  · rw [upd_ne hne] at hd; exact hd
  · rw [upd_ne hne] at hd
    refine k dx _ hd (fun b q e => ?_) upd_same
    rw [upd_ne (ne_of_none e hd), del_ne (ne_of_none e ha), upd_ne (ne_of_none e hd), upd_ne (ne_of_none e ha), upd_ne (ne_of_none e hd), upd_ne (ne_of_none e ha)]
    exact e
end
/-- raise C(e, ..) -/
theorem r_mkO {sp : Sp} {ta : TA} {C : Addr} {E : XK} {σ : L2.St} {H : Hp} (k : ta σ H fun vs H1 => vs.length ≤ 1000 ∧ ∀ a, H1 a = none → sp (.ref a :: (vs ++ [])) (upd H1 a (exo a C none))
    (fun v H2 => v = .non ∧ ∃ (d : Addr) (fs : List (Str × V)), H2 a = some (exo a C (some d)) ∧ H2 d = some (exd d fs) ∧ H1 d = none ∧ E (.ref C) (some d) (upd (del H2 a) d (.xd fs))) (fun _ _ _ => False)) :
    tMkO C sp [] ta σ H E := k
/-! ### wide products: one factor small, or both below a million bits -/
def CMulB (i j : Int) : Prop := CMulW i j ∨ CMul i j
def rTimesB : R2 := fun x y H Q => rI CMulB (fun i j => .int (i * j)) x y H Q ∨ rRep x y H Q
theorem op_timesB {X : Cx} : OpR X (binaryOp .Mult) rTimesB := by
  intro pins s σ H x y u v Q I rx ry h
  rcases h with ⟨i, j, ex, ey, c, q⟩ | h
  · rcases c with c | c
    · exact op_mulW pins s σ H x y u v Q I rx ry ⟨i, j, ex, ey, c, q⟩
    · exact op_mul pins s σ H x y u v Q I rx ry ⟨i, j, ex, ey, c, q⟩
  · exact op_rep pins s σ H x y u v Q I rx ry h
theorem r_timesB {H : Hp} {Q : VK} {i j : Int} (c : CMulB i j) (k : Q (.int (i * j)) H) : rTimesB (.int i) (.int j) H Q := .inl ⟨i, j, rfl, rfl, c, k⟩
theorem cmR {i j : Int} (h1 : -(2 ^ 64) < j) (h2 : j < 2 ^ 64) : CMulB i j := .inr (.inr ⟨h1, h2⟩)
theorem cmL {i j : Int} (h1 : -(2 ^ 64) < i) (h2 : i < 2 ^ 64) : CMulB i j := .inr (.inl ⟨h1, h2⟩)
theorem cdW {i j : Int} (h : 0 < j) (h2 : j < 2 ^ 250) : CDivW i j := wide_div h (b := 250) (by omega) (by decide) (by decide)
theorem r_repL {l : Addr} {xs : List V} {H : Hp} {Q : VK} {k : Int} (h : H l = some (.lst xs)) (h1 : -(2 ^ 63) ≤ k) (h2 : k < 2 ^ 63) (h3 : xs.length * k.toNat ≤ 100000) (q : ∀ p H', H p = none → Ext H H' → H' p = some (.lst (List.replicate k.toNat xs).flatten) → Q (.ref p) H') : rTimesB (.ref l) (.int k) H Q :=
  .inr ⟨l, k, xs, rfl, rfl, h, h1, h2, Nat.le_trans h3 (by decide), fun p hp => q p _ hp (Ext.new hp) upd_same⟩
end L3
namespace L3
open PySem PySem.Spec PyProof.Rows L2 He
section
variable {K : PySem.W.Frag} {H : Hp} {Q : VK} {σ : L2.St}
/-! leaves of built-ins -/
def LenS (K : PySem.W.Frag) : List V → Hp → VK → Prop := fun xs H Q => ∃ p ys, xs = [.ref p] ∧ (SqL K H p ys ∨ SqT K H p ys) ∧ Q (.int ys.length) H
theorem cr_len {X : Cx} : CallR X (.builtin "len") (LenS X.K) := call_len_seq
theorem r_lenL {p : Addr} {ys : List V} {n : Int} (h : SqL K H p ys) (e : (ys.length : Int) = n) (k : Q (.int n) H) : LenS K [.ref p] H Q := ⟨p, ys, rfl, .inl h, by rw [e]; exact k⟩
theorem r_lenT {p : Addr} {ys : List V} {n : Int} (h : SqT K H p ys) (e : (ys.length : Int) = n) (k : Q (.int n) H) : LenS K [.ref p] H Q := ⟨p, ys, rfl, .inr h, by rw [e]; exact k⟩
def IntS : List V → Hp → VK → Prop := fun xs H Q => (∃ i, xs = [.int i] ∧ Q (.int i) H) ∨ ∃ k, xs = [.bl k] ∧ Q (.int (if k then 1 else 0)) H
theorem cr_int {X : Cx} : CallR X (.type "int") IntS := call_int1
theorem r_intI {i : Int} (k : Q (.int i) H) : IntS [.int i] H Q := .inl ⟨i, rfl, k⟩
def AbsS : List V → Hp → VK → Prop := fun xs H Q => ∃ i, xs = [.int i] ∧ Q (.int (if i < 0 then -i else i)) H
theorem cr_abs {X : Cx} : CallR X (.builtin "abs") AbsS := call_abs
theorem r_abs {i : Int} (k : Q (.int (if i < 0 then -i else i)) H) : AbsS [.int i] H Q := ⟨i, rfl, k⟩
def MinS : List V → Hp → VK → Prop := fun xs H Q => ∃ i j, xs = [.int i, .int j] ∧ Q (.int (if j < i then j else i)) H
def MaxS : List V → Hp → VK → Prop := fun xs H Q => ∃ i j, xs = [.int i, .int j] ∧ Q (.int (if j > i then j else i)) H
theorem cr_min2 {X : Cx} (hc : X.calm = true) : CallR X (.builtin "min") MinS := call_min2 hc
theorem cr_max2 {X : Cx} (hc : X.calm = true) : CallR X (.builtin "max") MaxS := call_max2 hc
theorem r_min {i j : Int} (k : Q (.int (min i j)) H) : MinS [.int i, .int j] H Q := ⟨i, j, rfl, by
  have e : (if j < i then j else i) = min i j := by split <;> omega
  rw [e]; exact k⟩
theorem r_max {i j : Int} (k : Q (.int (max i j)) H) : MaxS [.int i, .int j] H Q := ⟨i, j, rfl, by
  have e : (if j > i then j else i) = max i j := by split <;> omega
  rw [e]; exact k⟩
def ListS (K : PySem.W.Frag) : List V → Hp → VK → Prop := fun xs H Q => ∃ p ys, xs = [.ref p] ∧ (SqL K H p ys ∨ SqT K H p ys) ∧ ∀ l, H l = none → Q (.ref l) (upd H l (.lst ys))
theorem cr_list {X : Cx} : CallR X (.type "list") (ListS X.K) := call_list_of
theorem r_listL {p : Addr} {ys : List V} (h : SqL K H p ys) (k : ∀ l H', H l = none → Ext H H' → H' l = some (.lst ys) → Q (.ref l) H') : ListS K [.ref p] H Q := ⟨p, ys, rfl, .inl h, fun l hl => k l _ hl (Ext.new hl) upd_same⟩
theorem r_listT {p : Addr} {ys : List V} (h : SqT K H p ys) (k : ∀ l H', H l = none → Ext H H' → H' l = some (.lst ys) → Q (.ref l) H') : ListS K [.ref p] H Q := ⟨p, ys, rfl, .inr h, fun l hl => k l _ hl (Ext.new hl) upd_same⟩
theorem r_sum {p : Addr} {ns : List Int} (h : SqL K H p (ns.map V.int)) (k : Q (.int ns.sum) H) : rSum K [.ref p] H Q := ⟨p, ns, rfl, h, k⟩
theorem r_slL {p : Addr} {xs : List V} {lo hi : Option Int} (h : SqL K H p xs) (k : ∀ l H', H l = none → Ext H H' → H' l = some (.lst (cutV xs lo hi)) → Q (.ref l) H') : rSlL K (.ref p) lo hi H Q := ⟨p, xs, rfl, h, fun l hl => k l _ hl (Ext.new hl) upd_same⟩
theorem r_catL {l b : Addr} {xs zs : List V} (h1 : H l = some (.lst xs)) (h2 : H b = some (.lst zs)) (hz : xs.length + zs.length ≤ 100000) (k : ∀ p H', H p = none → Ext H H' → H' p = some (.lst (xs ++ zs)) → Q (.ref p) H') : rPlus K (.ref l) (.ref b) H Q :=
  .inr (.inl ⟨l, b, xs, zs, rfl, rfl, h1, h2, Nat.le_trans hz (by decide), fun p hp => k p _ hp (Ext.new hp) upd_same⟩)
theorem r_popAt {l : Addr} {xs : List V} {i : Int} {j : Nat} {v : V} (h : H l = some (.lst xs)) (ei : i = (j : Int)) (hj : j < 100000) (e : xs[j]? = some v) (k : ∀ H', H' l = some (.lst (xs.eraseIdx j)) → (∀ b, b ≠ l → H' b = H b) → Q v H') : rPopAt (.ref l) [.int i] H Q := by
  subst ei
  have hl : j < xs.length := (List.getElem?_eq_some_iff.mp e).1
  exact ⟨l, xs, (j : Int), j, v, rfl, rfl, h, by omega, by omega, seqIndex_of (by omega) (by omega), e, k _ upd_same fun b hb => upd_ne hb⟩
theorem r_pow {i j : Int} (h : 0 ≤ j ∧ j ≤ 1000000 ∧ i.natAbs < 2 ^ 64) (k : Q (.int (i ^ j.toNat)) H) : rI CPow (fun i j => .int (i ^ j.toNat)) (.int i) (.int j) H Q := ⟨i, j, rfl, rfl, h, k⟩
theorem r_mod {i j : Int} (h : 0 < j) (k : Q (.int (i % j)) H) : rI (fun _ j => 0 < j) (fun i j => .int (i % j)) (.int i) (.int j) H Q := ⟨i, j, rfl, rfl, h, k⟩
theorem r_div {i j : Int} (h : CDivW i j) (k : Q (.int (i / j)) H) : rI CDivW (fun i j => .int (i / j)) (.int i) (.int j) H Q := ⟨i, j, rfl, rfl, h, k⟩
end
end L3
set_option maxRecDepth 100000
set_option maxHeartbeats 4000000
/-! CmF: loops and comprehensions, read by an invariant. -/
namespace L3
open PySem PySem.Spec PyProof.Rows L2 He
def ForW (J : It) (g : TG) (tb : TS) (D : Ends) (σ : L2.St) (H1 : Hp) : Prop := ∃ W : Nat → Nat → L2.St → Hp → Prop, (∃ m, W 0 m σ H1) ∧ ∀ i m σ H, W i m σ H →
  (J.stop i H ∧ D.nx σ H) ∨ (J.go i H ∧ ∃ N : L2.St → Hp → Prop, (∀ σ' H', N σ' H' → ∃ m', m' < m ∧ W (i + 1) m' σ' H') ∧ ∀ x H', J.yld i H x H' → g x σ H' fun σ2 H2 => tb { D with nx := N, ct := N, bk := D.nx } σ2 H2)
def LcW (J : It) (g : TG) (tt : TT) (te : TE) (vs : List Nat) (σ : L2.St) (D : Addr) (Qd : Hp → Prop) (H1 : Hp) : Prop := ∃ W : Nat → Nat → Hp → Prop, (∃ m, W 0 m (upd H1 D (.lst []))) ∧ ∀ i m H, W i m H →
  (J.stop i H ∧ Qd H) ∨ (J.go i H ∧ ∃ Nx : Hp → Prop, (∀ H', Nx H' → ∃ m', m' < m ∧ W (i + 1) m' H') ∧ ∀ x H', J.yld i H x H' → g x (wipe σ vs) H' fun σ2 H2 => wipe σ2 vs = wipe σ vs ∧ tt σ2 H2 fun b H3 =>
    if b = true then te σ2 H3 fun y H4 => ∃ acc, H4 D = some (.lst acc) ∧ acc.length < sizeLine ∧ Nx (upd H4 D (.lst (acc ++ [y]))) else Nx H3)
section
variable {σ : L2.St} {H : Hp} {D : Ends} {K : PySem.W.Frag} {g : TG} {tb : TS} {wi : TI} {ta : TA} {tl te : TE} {tt : TT} {R : It → Hp → Prop} {nx bk ct : L2.St → Hp → Prop} {rt : VK} {Q : VK}
theorem r_for (k : wi σ H fun J H1 => ForW J g tb D σ H1) : tFor wi g tb D σ H := k
theorem r_lc {vs : List Nat} (k : wi σ H fun J H1 => ∀ D, H1 D = none → LcW J g tt te vs σ D (fun H => Q (.ref D) H) H1) : tLc wi g tt te vs σ H Q := k
def Rg1 (vs : List V) (H1 : Hp) (R : It → Hp → Prop) : Prop := ∃ j : Int, vs = [.int j] ∧ -(2 ^ 62) ≤ j ∧ j < 2 ^ 62 ∧ R (Itr 0 j.toNat) H1
def Rg2 (vs : List V) (H1 : Hp) (R : It → Hp → Prop) : Prop := ∃ i j : Int, vs = [.int i, .int j] ∧ (-(2 ^ 62) ≤ i ∧ i < 2 ^ 62 ∧ -(2 ^ 62) ≤ j ∧ j < 2 ^ 62) ∧ R (Itr i (j - i).toNat) H1
def LiI (K : PySem.W.Frag) (x : V) (H1 : Hp) (R : It → Hp → Prop) : Prop := ∃ a, x = .ref a ∧ (∃ xs, SqL K H1 a xs) ∧ R (Itl K a) H1
def TiI (K : PySem.W.Frag) (x : V) (H1 : Hp) (R : It → Hp → Prop) : Prop := ∃ a, x = .ref a ∧ (∃ xs, SqT K H1 a xs) ∧ R (Itt K a) H1
theorem r_iR1 (k : ta σ H fun vs H1 => Rg1 vs H1 R) : iRng1 ta σ H R := k
theorem r_rg1 {j : Int} (h : -(2 ^ 62) ≤ j ∧ j < 2 ^ 62) (k : R (Itr 0 j.toNat) H) : Rg1 [V.int j] H R := ⟨j, rfl, h.1, h.2, k⟩
theorem r_iR2 (k : ta σ H fun vs H1 => Rg2 vs H1 R) : iRng2 ta σ H R := k
theorem r_rg2 {i j : Int} (h : -(2 ^ 62) ≤ i ∧ i < 2 ^ 62 ∧ -(2 ^ 62) ≤ j ∧ j < 2 ^ 62) (k : R (Itr i (j - i).toNat) H) : Rg2 [V.int i, V.int j] H R := ⟨i, j, rfl, h, k⟩
theorem r_iL (k : tl σ H fun x H1 => LiI K x H1 R) : iList K tl σ H R := k
theorem r_iT (k : tl σ H fun x H1 => TiI K x H1 R) : iTup K tl σ H R := k
theorem r_li {a : Addr} {xs : List V} (h : SqL K H a xs) (k : R (Itl K a) H) : LiI K (.ref a) H R := ⟨a, rfl, ⟨xs, h⟩, k⟩
theorem r_ti {a : Addr} {xs : List V} (h : SqT K H a xs) (k : R (Itt K a) H) : TiI K (.ref a) H R := ⟨a, rfl, ⟨xs, h⟩, k⟩
/-- for over a range: Pv of the turn, the slots, the heap -/
theorem forW_range {lo : Int} {n : Nat} (Pv : Nat → L2.St → Hp → Prop) (h0 : Pv 0 σ H) (hs : ∀ i σ H, i < n → Pv i σ H → g (.int (lo + i)) σ H fun σ2 H2 => tb ⟨Pv (i + 1), rt, nx, Pv (i + 1)⟩ σ2 H2) (hd : ∀ σ H, Pv n σ H → nx σ H) : ForW (Itr lo n) g tb ⟨nx, rt, bk, ct⟩ σ H :=
  for_range (D := ⟨nx, rt, bk, ct⟩) Pv h0 hs hd
theorem forW_list {a : Addr} {xs : List V} (Pv : Nat → L2.St → Hp → Prop) (h0 : Pv 0 σ H) (hl : ∀ i σ H, i ≤ xs.length → Pv i σ H → SqL K H a xs) (hs : ∀ i x σ H, xs[i]? = some x → Pv i σ H → g x σ H fun σ2 H2 => tb ⟨Pv (i + 1), rt, nx, Pv (i + 1)⟩ σ2 H2)
    (hd : ∀ σ H, Pv xs.length σ H → nx σ H) : ForW (Itl K a) g tb ⟨nx, rt, bk, ct⟩ σ H := for_list (D := ⟨nx, rt, bk, ct⟩) Pv h0 hl hs hd
theorem forW_tup {a : Addr} {xs : List V} (Pv : Nat → L2.St → Hp → Prop) (h0 : Pv 0 σ H) (hl : ∀ i σ H, i ≤ xs.length → Pv i σ H → SqT K H a xs) (hs : ∀ i x σ H, xs[i]? = some x → Pv i σ H → g x σ H fun σ2 H2 => tb ⟨Pv (i + 1), rt, nx, Pv (i + 1)⟩ σ2 H2)
    (hd : ∀ σ H, Pv xs.length σ H → nx σ H) : ForW (Itt K a) g tb ⟨nx, rt, bk, ct⟩ σ H := for_tup (D := ⟨nx, rt, bk, ct⟩) Pv h0 hl hs hd
/-- while, by a word that falls -/
theorem whileW {c : TT} (W : Nat → L2.St → Hp → Prop) (m0 : Nat) (h0 : W m0 σ H)
    (hs : ∀ m σ H, W m σ H → c σ H fun b H1 => if b = true then ∃ N : L2.St → Hp → Prop, (∀ σ' H', N σ' H' → ∃ m', m' < m ∧ W m' σ' H') ∧ tb ⟨N, rt, nx, N⟩ σ H1 else nx σ H1) : tWhile c tb ⟨nx, rt, bk, ct⟩ σ H := ⟨W, ⟨m0, h0⟩, hs⟩
theorem r_N {W : Nat → L2.St → Hp → Prop} {m : Nat} (k : tb ⟨fun σ' H' => ∃ m', m' < m ∧ W m' σ' H', rt, nx, fun σ' H' => ∃ m', m' < m ∧ W m' σ' H'⟩ σ H) :
    ∃ N : L2.St → Hp → Prop, (∀ σ' H', N σ' H' → ∃ m', m' < m ∧ W m' σ' H') ∧ tb ⟨N, rt, nx, N⟩ σ H := ⟨_, fun _ _ h => h, k⟩
theorem r_gname {i : Nat} {v : V} {P : L2.St → Hp → Prop} (k : P (σ.set i (some v)) H) : gName i v σ H P := k
theorem r_gtup {n : Nat} {t : TGs} {a : Addr} {xs : List V} {P : L2.St → Hp → Prop} (h : SqT K H a xs) (hn : xs.length = n) (k : t xs σ H P) : gTup K n t (.ref a) σ H P := ⟨a, xs, rfl, h, hn, k⟩
theorem r_glst {n : Nat} {t : TGs} {a : Addr} {xs : List V} {P : L2.St → Hp → Prop} (h : SqL K H a xs) (hn : xs.length = n) (k : t xs σ H P) : gLst K n t (.ref a) σ H P := ⟨a, xs, rfl, h, hn, k⟩
theorem r_gcons {t : TG} {u : TGs} {v : V} {r : List V} {P : L2.St → Hp → Prop} (k : t v σ H fun σ' H' => u r σ' H' P) : gCons t u (v :: r) σ H P := ⟨v, r, rfl, k⟩
theorem r_gnil {P : L2.St → Hp → Prop} (k : P σ H) : gNil [] σ H P := ⟨rfl, k⟩
/-! comprehensions -/
theorem lcW_range {lo : Int} {n : Nat} {vs : List Nat} {Dl : Addr} {Qd : Hp → Prop} (Pv : Nat → Hp → Prop) (h0 : Pv 0 (upd H Dl (.lst []))) (hs : ∀ i H, i < n → Pv i H → g (.int (lo + i)) (wipe σ vs) H fun σ2 H2 => wipe σ2 vs = wipe σ vs ∧ tt σ2 H2 fun b H3 =>
      if b = true then te σ2 H3 fun y H4 => ∃ acc, H4 Dl = some (.lst acc) ∧ acc.length < sizeLine ∧ Pv (i + 1) (upd H4 Dl (.lst (acc ++ [y]))) else Pv (i + 1) H3) (hd : ∀ H, Pv n H → Qd H) : LcW (Itr lo n) g tt te vs σ Dl Qd H := lc_range Pv h0 hs hd
theorem lcW_list {a : Addr} {xs : List V} {vs : List Nat} {Dl : Addr} {Qd : Hp → Prop} (Pv : Nat → Hp → Prop) (h0 : Pv 0 (upd H Dl (.lst []))) (hl : ∀ i H, i ≤ xs.length → Pv i H → SqL K H a xs)
    (hs : ∀ i x H, xs[i]? = some x → Pv i H → g x (wipe σ vs) H fun σ2 H2 => wipe σ2 vs = wipe σ vs ∧ tt σ2 H2 fun b H3 =>
      if b = true then te σ2 H3 fun y H4 => ∃ acc, H4 Dl = some (.lst acc) ∧ acc.length < sizeLine ∧ Pv (i + 1) (upd H4 Dl (.lst (acc ++ [y]))) else Pv (i + 1) H3) (hd : ∀ H, Pv xs.length H → Qd H) : LcW (Itl K a) g tt te vs σ Dl Qd H := lc_list Pv h0 hl hs hd
/-- what has been made so far: one value a turn -/
structure LcP (H1 : Hp) (Dl : Addr) (f : Nat → V) (i : Nat) (H' : Hp) : Prop where
  e : Ext H1 H'
  d : H' Dl = some (.lst ((List.range i).map f))
theorem LcP.start {H1 : Hp} {Dl : Addr} {f : Nat → V} (hD : H1 Dl = none) : LcP H1 Dl f 0 (upd H1 Dl (.lst [])) := ⟨Ext.new hD, upd_same⟩
theorem LcP.push {H1 H' H4 : Hp} {Dl : Addr} {f : Nat → V} {i : Nat} {y : V} (p : LcP H1 Dl f i H') (hD : H1 Dl = none) (hi : i < 100000) (e : Ext H' H4) (ey : y = f i) : ∃ acc, H4 Dl = some (.lst acc) ∧ acc.length < sizeLine ∧ LcP H1 Dl f (i + 1) (upd H4 Dl (.lst (acc ++ [y]))) := by
  refine ⟨_, e _ _ p.d, ?_, Ext.mut (p.e.trans e) hD, ?_⟩
  · rw [List.length_map, List.length_range]
    exact Nat.lt_of_lt_of_le hi (by decide)
  · rw [upd_same, List.range_succ, List.map_append, ey]
    rfl
theorem r_yes {P : Bool → Hp → Prop} (k : P true H) : tYes σ H P := k
theorem r_lcW {vs : List Nat} {σ2 : L2.St} {P : Prop} (e : wipe σ2 vs = wipe σ vs) (k : P) : wipe σ2 vs = wipe σ vs ∧ P := ⟨e, k⟩
end
end L3
namespace L3
open PySem PySem.Spec PyProof.Rows L2 He
/-- a statement, then the rest, with a word between -/
theorem r_cut {t u : TS} {nx bk ct : L2.St → Hp → Prop} {rt : VK} {σ : L2.St} {H : Hp} (M : L2.St → Hp → Prop) (h1 : t ⟨M, rt, bk, ct⟩ σ H) (h2 : ∀ σ' H', M σ' H' → u ⟨nx, rt, bk, ct⟩ σ' H') : C8.tCut t u ⟨nx, rt, bk, ct⟩ σ H := ⟨M, h1, h2⟩
theorem ifI {b : Bool} {x y : Int} {Q : VK} {H : Hp} (k : Q (.int (if b = true then x else y)) H) : if b = true then Q (.int x) H else Q (.int y) H := by cases b <;> exact k
end L3
namespace L3
open PySem PySem.Spec PyProof.Rows L2 He
theorem cut_to (xs : List V) (k : Nat) : cutV xs none (some (k : Int)) = xs.take k := by
  unfold cutV
  rw [HT.sIx_none, HT.sIx_nat, List.drop_zero, Nat.sub_zero]
  by_cases h : k ≤ xs.length
  · rw [Nat.min_eq_left h]
  · rw [Nat.min_eq_right (by omega), List.take_of_length_le (Nat.le_refl _), List.take_of_length_le (by omega)]
theorem cut_from (xs : List V) (k : Nat) : cutV xs (some (k : Int)) none = xs.drop k := by
  unfold cutV
  rw [HT.sIx_none, HT.sIx_nat]
  by_cases h : k ≤ xs.length
  · rw [Nat.min_eq_left h, List.take_of_length_le (by rw [List.length_drop] <;> omega)]
  · rw [Nat.min_eq_right (Nat.le_of_lt (Nat.lt_of_not_le h)), List.drop_of_length_le (Nat.le_refl _), List.drop_of_length_le (Nat.le_of_lt (Nat.lt_of_not_le h)), List.take_nil]
theorem cut_at (xs : List V) (i j : Nat) : cutV xs (some (i : Int)) (some (j : Int)) = (xs.drop i).take (j - i) := by
  unfold cutV
  rw [HT.sIx_nat, HT.sIx_nat]
  by_cases h : i ≤ xs.length
  · rw [Nat.min_eq_left h]
    by_cases h2 : j ≤ xs.length
    · rw [Nat.min_eq_left h2]
    · rw [Nat.min_eq_right (by omega), List.take_of_length_le (by rw [List.length_drop] <;> omega), List.take_of_length_le (by rw [List.length_drop] <;> omega)]
  · rw [Nat.min_eq_right (a := i) (Nat.le_of_lt (Nat.lt_of_not_le h)), List.drop_of_length_le (Nat.le_refl _), List.drop_of_length_le (Nat.le_of_lt (Nat.lt_of_not_le h)), List.take_nil, List.take_nil]
theorem range_ints (ns : List Int) (g : Int → Int) : (List.range ns.length).map (fun i => V.int (g (ns.getD i 0))) = (ns.map g).map V.int := by
  apply List.ext_getElem
  · simp
  · intro i h1 h2
    simp at h1 h2 ⊢
    simp [h1]
theorem ints_get {ns : List Int} {i : Nat} {x : V} (h : (ns.map V.int)[i]? = some x) : i < ns.length ∧ x = .int (ns.getD i 0) := by
  rw [List.getElem?_map] at h
  cases e : ns[i]? with
  | none => rw [e] at h; cases h
  | some z =>
    rw [e] at h
    obtain ⟨h1, h2⟩ := List.getElem?_eq_some_iff.mp e
    refine ⟨h1, ?_⟩
    have : x = .int z := (Option.some.inj h).symm
    rw [this, List.getD_eq_getElem?_getD, e]
    rfl
end L3
namespace L3
open PySem PySem.Spec PyProof.Rows L2 He
/-- x if c else y, both written ints; if b then .. -/
def IfI (b : Bool) (x y : Int) (H : Hp) (Q : VK) : Prop := Q (.int (if b = true then x else y)) H
theorem mono_ifC {b : Bool} {x y : Int} {H : Hp} {Q : VK} (k : IfI b x y H Q) : if b = true then tC (.int x) [] H Q else tC (.int y) [] H Q := by cases b <;> exact k
def tIfC (c : TT) (x y : Int) : TE := fun σ H Q => c σ H fun b H1 => IfI b x y H1 Q
theorem r_ifI {b : Bool} {x y : Int} {H : Hp} {Q : VK} (k : Q (.int (if b = true then x else y)) H) : IfI b x y H Q := k
theorem tIfC_eq (c : TT) (x y : Int) : tIfC c x y = tIf c (tC (.int x)) (tC (.int y)) := by
  funext σ H Q
  unfold tIfC tIf IfI tC
  have e : (fun (b : Bool) (H1 : Hp) => Q (.int (if b = true then x else y)) H1) = fun b H1 => if b = true then Q (.int x) H1 else Q (.int y) H1 := by
    funext b H1
    cases b <;> rfl
  rw [e]
theorem r_ifC {c : TT} {x y : Int} {σ : L2.St} {H : Hp} {Q : VK} (k : c σ H fun b H1 => IfI b x y H1 Q) : tIf c (tC (.int x)) (tC (.int y)) σ H Q := by
  rw [← tIfC_eq]
  exact k
end L3
set_option maxRecDepth 100000
set_option maxHeartbeats 4000000
/-! CmG: sources of draws; what stays when one object changes. -/
namespace L3
open PySem PySem.Spec PyProof.Rows L2 He
/-- a source of draws: three ints -/
def Src (H : Hp) (p : Addr) : Prop := ∃ a b c : Int, H p = some (.lst [.int a, .int b, .int c])
theorem Src.ext {H H' : Hp} {p : Addr} (s : Src H p) (e : Ext H H') : Src H' p := by obtain ⟨a, b, c, h⟩ := s; exact ⟨a, b, c, e _ _ h⟩
def spSource (K : PySem.W.Frag) : Sp := fun vs H Q _ => ∃ (a : Addr) (ns : List Int) (t : Nat), vs = [.ref a, .int t] ∧ SqL K H a (ns.map V.int) ∧ ns.length ≤ 63 ∧ t ≤ 1000 ∧ ∀ p H', H p = none → Ext H H' → Src H' p → Q (.ref p) H'
theorem pos128 : (0 : Int) < 10 ^ (64 : Int).toNat * 10 ^ (64 : Int).toNat := by decide
theorem bd128 : ((10 : Int) ^ (64 : Int).toNat).natAbs < 2 ^ 250 := by decide
theorem bd31 (x : Int) : 0 ≤ x % 2147483629 ∧ x % 2147483629 < 2147483629 := ⟨Int.emod_nonneg _ (by decide), Int.emod_lt_of_pos _ (by decide)⟩
/-- a draw below many: any number below it, only the source changes -/
def spPick : Sp := fun vs H Q _ => ∃ (p : Addr) (m : Int), vs = [.ref p, .int m] ∧ Src H p ∧ 0 < m ∧ m < 2 ^ 250 ∧ ∀ r H', 0 ≤ r → r < m → Src H' p → (∀ b, b ≠ p → H' b = H b) → Q (.int r) H'
/-- an address b of the heap stays when only p changes -/
theorem stay {H H' : Hp} {p b : Addr} {o : HO} (n : ∀ b, b ≠ p → H' b = H b) (hb : b ≠ p) (h : H b = some o) : H' b = some o := (n b hb).trans h
/-- all but p as it was -/
def But (p : Addr) (H H' : Hp) : Prop := ∀ b o, b ≠ p → H b = some o → H' b = some o
theorem But.rfl {p : Addr} {H : Hp} : But p H H := fun _ _ _ h => h
theorem But.of {p : Addr} {H H' : Hp} (n : ∀ b, b ≠ p → H' b = H b) : But p H H' := fun b o hb h => (n b hb).trans h
theorem But.ext {p : Addr} {H H1 H2 : Hp} (b : But p H H1) (e : Ext H1 H2) : But p H H2 := fun c o hc h => e _ _ (b c o hc h)
theorem ext_but {p : Addr} {H H1 : Hp} (e : Ext H H1) : But p H H1 := fun c o _ h => e _ _ h
theorem But.trans {p : Addr} {H H1 H2 : Hp} (a : But p H H1) (b : But p H1 H2) : But p H H2 := fun c o hc h => b c o hc (a c o hc h)
theorem But.mut {p q : Addr} {H H1 H2 : Hp} (a : But p H H1) (hq : H q = none) (n : ∀ b, b ≠ q → H2 b = H1 b) : But p H H2 := fun c o hc h => (n c (ne_of_none h hq)).trans (a c o hc h)
theorem But.l {K : PySem.W.Frag} {p a : Addr} {H H' : Hp} {xs : List V} (b : But p H H') (ha : a ≠ p) (h : SqL K H a xs) : SqL K H' a xs := by
  rcases h with (h | ⟨o, h⟩) | h
  · exact .inl (.inl (b _ _ ha h))
  · exact .inl (.inr ⟨o, b _ _ ha h⟩)
  · exact .inr h
theorem sq_ne {K : PySem.W.Frag} {p a : Addr} {H : Hp} {xs ys : List V} (h : H p = some (.lst ys)) (ha : SqL K H a xs) (e : xs ≠ ys) : a ≠ p ∨ ∃ o, K.lookup a = some o := by
  rcases ha with (q | ⟨o, q⟩) | ⟨o, _, _, q, _⟩
  · refine .inl fun z => ?_
    rw [z, h] at q
    exact e (by injection (Option.some.inj q) with z; exact z.symm)
  · refine .inl fun z => ?_
    rw [z, h] at q
    cases q
  · exact .inr ⟨o, q⟩
theorem src_ne {p q : Addr} {H : Hp} (s : Src H p) (h : H q = none) : p ≠ q := by
  obtain ⟨a, b, c, e⟩ := s
  exact ne_of_none e h
theorem eraseIdx_perm {α : Type} : ∀ {xs : List α} {j : Nat} {x : α}, xs[j]? = some x → (x :: xs.eraseIdx j).Perm xs
  | [], j, x, h => by simp at h
  | y :: xs, 0, x, h => by simp at h; subst h; exact .refl _
  | y :: xs, j + 1, x, h => by
    have h' : xs[j]? = some x := by simpa using h
    show (x :: y :: xs.eraseIdx j).Perm (y :: xs)
    exact (List.Perm.swap _ _ _).trans ((eraseIdx_perm h').cons y)
def spShuf (K : PySem.W.Frag) : Sp := fun vs H Q _ => ∃ (p t : Addr) (xs : List V), vs = [.ref p, .ref t] ∧ Src H p ∧ SqL K H t xs ∧ xs.length ≤ 10000 ∧
  ∀ q H' (ys : List V), H q = none → ys.Perm xs → Src H' p → H' q = some (.lst ys) → But p H H' → Q (.ref q) H'
end L3
set_option maxRecDepth 100000
set_option maxHeartbeats 4000000
/-! CmH: data of any depth; isinstance of it. -/
namespace L3
open PySem PySem.Spec PyProof.Rows L2 He
theorem pe_ty {X : Cx} {n : String} {pos : Pos} (hm : X.mg (Str.ofString n) = none) (hg : Gl X (Str.ofString n) := by rfl) (hv : bootBuiltins (Str.ofString n) = some (.type n) := by decide +kernel) (hn : Str.ofString n ≠ "__name__" := by decide) (hd : (Str.ofString n == ("__debug__" : Str)) = false := by decide) :
    PE X (.Name (Str.ofString n) pos) (tC (.ty n)) := pe_bltn hg hm hv rfl hn hd
/-- a def's promise that asks what cannot be -/
theorem calG_false {P : Program} {w : World} {K : PySem.W.Frag} {mg : Str → Option Value} {base : Heap} {k : Nat} {x : Str} {st : Stmt} {ps : List Str} (hg : mg x = some (.ref (ga K x))) (D : ∃ fd, FunD K x x (defArgs st) (defBody st) (defScope st) [] [] (ga K x) fd)
    (hb : ∀ (dV kV doc pm : Value) (an : Option Addr) (cdv ct : Value) (us : List Value), us.length = ps.length → bindArgs (PySem.W.fnOf x x (defArgs st) (defBody st) (defScope st) .none kV doc pm an cdv ct) ⟨us, []⟩ = pure (ps.zip us)) : CalG P w K mg base k x ps (fun _ _ _ _ => False) := by
  obtain ⟨fd, F⟩ := D
  exact ⟨hg, ⟨fd, ⟨fun _ _ _ _ z => z.elim, fun _ _ _ _ _ _ _ _ _ _ _ _ _ z => z.elim⟩, F.bindsN fun kV doc pm an cdv ct us hl => hb .none kV doc pm an cdv ct us hl⟩, F.kp⟩
section
variable {K : PySem.W.Frag} {H H' : Hp}
mutual
theorem Ext.dp (e : Ext H H') : ∀ (d : PyData) {x : V}, Dp K H x d → Dp K H' x d
  | .none, _, .non => .non
  | .bool b, _, .bl _ => .bl b
  | .int i, _, .int _ => .int i
  | .str s, _, .str _ => .str s
  | .list ds, _, .lst h hs => .lst (e.l h) (Ext.dps e ds hs)
  | .tuple ds, _, .tup h hs => .tup (e.tu h) (Ext.dps e ds hs)
theorem Ext.dps (e : Ext H H') : ∀ (ds : List PyData) {xs : List V}, DpAll K H xs ds → DpAll K H' xs ds
  | [], _, .nil => .nil
  | d :: ds, _, .cons h hs => .cons (Ext.dp e d h) (Ext.dps e ds hs)
end
theorem dps_len : ∀ {xs : List V} {ds : List PyData}, DpAll K H xs ds → xs.length = ds.length
  | _, _, .nil => rfl
  | _, _, .cons _ h => by rw [List.length_cons, List.length_cons, dps_len h]
theorem dps_get : ∀ {xs : List V} {ds : List PyData} {i : Nat} {d : PyData}, DpAll K H xs ds → ds[i]? = some d → ∃ x, xs[i]? = some x ∧ Dp K H x d
  | _, _, i, d, .nil, e => by simp at e
  | _, _, 0, d, .cons h _, e => by simp at e; subst e; exact ⟨_, rfl, h⟩
  | _, _, i + 1, d, .cons _ h, e => by
    obtain ⟨x, e1, h1⟩ := dps_get (i := i) h (by simpa using e)
    exact ⟨x, by simpa using e1, h1⟩
theorem dps_ints : ∀ (ns : List Int), DpAll K H (ns.map V.int) (ns.map PyData.int)
  | [] => .nil
  | n :: ns => .cons (.int n) (dps_ints ns)
theorem dps_append : ∀ {xs ys : List V} {ds es : List PyData}, DpAll K H xs ds → DpAll K H ys es → DpAll K H (xs ++ ys) (ds ++ es)
  | _, _, _, _, .nil, h => h
  | _, _, _, _, .cons h t, g => .cons h (dps_append t g)
/-- the type's name -/
def tyD : PyData → String
  | .none => "NoneType"
  | .bool _ => "bool"
  | .int _ => "int"
  | .str _ => "str"
  | .list _ => "list"
  | .tuple _ => "tuple"
  | .dict _ => "dict"
theorem dp_ty {x : V} {d : PyData} (h : Dp K H x d) : TyX K H x (.type (tyD d)) := by
  cases h with
  | non => exact .base .non
  | bl b => exact .base (.bl b)
  | int i => exact .base (.int i)
  | str s => exact .base (.str s)
  | lst h _ =>
    rcases h with (h | ⟨o, h⟩) | ⟨o, _, _, h, c, _⟩
    · exact .base (.lst h)
    · exact .base (.frz h)
    · exact .kList h c
  | tup h _ =>
    rcases h with (h | ⟨o, h⟩) | ⟨o, _, _, h, c, _⟩
    · exact .base (.tup h)
    · exact .fTuple h
    · exact .kTuple h c
def tys : List String := ["NoneType", "bool", "int", "str", "list", "tuple"]
def isB (a b : String) : Bool := decide (a = b) || (decide (a = "bool") && decide (b = "int"))
theorem kit6 : ∀ a ∈ tys, ∀ b ∈ ["list", "tuple", "dict", "bool", "str", "int"], kitB a b = some (isB a b) := by decide +kernel
theorem ty_in {x : V} {d : PyData} (h : Dp K H x d) : tyD d ∈ tys := by cases h <;> simp [tyD, tys]
theorem kit_is {x : V} {d : PyData} (h : Dp K H x d) {b : String} (hb : b ∈ ["list", "tuple", "dict", "bool", "str", "int"]) : PySem.W.kitOne K (.type (tyD d)) (.type b) = some (isB (tyD d) b) := kit_ty (kit6 _ (ty_in h) _ hb)
variable {Q : VK}
/-- isinstance(x, T) -/
theorem r_isi {x : V} {d : PyData} {b : String} (h : Dp K H x d) (hb : b ∈ ["list", "tuple", "dict", "bool", "str", "int"]) (k : Q (.bl (isB (tyD d) b)) H) : rIsi K [x, .ty b] H Q := ⟨x, _, _, _, _, rfl, .ty b, dp_ty h, kit_is h hb, k⟩
theorem kitAny2 {a b c : String} {p q : Bool} (h1 : PySem.W.kitOne K (.type a) (.type b) = some p) (h2 : PySem.W.kitOne K (.type a) (.type c) = some q) : PySem.W.kitAny K (.type a) [.type b, .type c] = some (p || q) := by
  unfold PySem.W.kitAny
  rw [h1]
  cases p
  · show PySem.W.kitAny K (.type a) [.type c] = some q
    unfold PySem.W.kitAny
    rw [h2]
    cases q <;> rfl
  · rfl
theorem kitAny3 {a b c d : String} {p q r : Bool} (h1 : PySem.W.kitOne K (.type a) (.type b) = some p) (h2 : PySem.W.kitOne K (.type a) (.type c) = some q) (h3 : PySem.W.kitOne K (.type a) (.type d) = some r) : PySem.W.kitAny K (.type a) [.type b, .type c, .type d] = some (p || (q || r)) := by
  unfold PySem.W.kitAny
  rw [h1]
  cases p
  · show PySem.W.kitAny K (.type a) [.type c, .type d] = some (q || r)
    exact kitAny2 h2 h3
  · rfl
/-- isinstance(x, (T, U)) -/
theorem r_isi2 {x : V} {d : PyData} {b c : String} {t : Addr} (h : Dp K H x d) (ht : H t = some (.tup [.ty b, .ty c])) (hb : b ∈ ["list", "tuple", "dict", "bool", "str", "int"]) (hc : c ∈ ["list", "tuple", "dict", "bool", "str", "int"])
    (k : Q (.bl (isB (tyD d) b || isB (tyD d) c)) H) : rIsiT K [x, .ref t] H Q := ⟨x, t, _, _, _, _, rfl, ht, .cons (.ty b) (.cons (.ty c) .nil), dp_ty h, kitAny2 (kit_is h hb) (kit_is h hc), k⟩
theorem r_isi3 {x : V} {d : PyData} {b c e : String} {t : Addr} (h : Dp K H x d) (ht : H t = some (.tup [.ty b, .ty c, .ty e])) (hb : b ∈ ["list", "tuple", "dict", "bool", "str", "int"]) (hc : c ∈ ["list", "tuple", "dict", "bool", "str", "int"]) (he : e ∈ ["list", "tuple", "dict", "bool", "str", "int"])
    (k : Q (.bl (isB (tyD d) b || (isB (tyD d) c || isB (tyD d) e))) H) : rIsiT K [x, .ref t] H Q := ⟨x, t, _, _, _, _, rfl, ht, .cons (.ty b) (.cons (.ty c) (.cons (.ty e) .nil)), dp_ty h, kitAny3 (kit_is h hb) (kit_is h hc) (kit_is h he), k⟩
theorem r_all {p : Addr} {bs : List Bool} (h : SqL K H p (bs.map V.bl)) (k : Q (.bl (bs.all id)) H) : rAll K [.ref p] H Q := ⟨p, bs, rfl, h, k⟩
theorem r_any {p : Addr} {bs : List Bool} (h : SqL K H p (bs.map V.bl)) (k : Q (.bl (bs.any id)) H) : rAny K [.ref p] H Q := ⟨p, bs, rfl, h, k⟩
theorem r_isN1 {x : V} (k : Q (.bl (decide (x = .non))) H) : rIsN x .non H Q := ⟨rfl, k⟩
theorem r_notN1 {x : V} (k : Q (.bl (!decide (x = .non))) H) : rNotN x .non H Q := ⟨rfl, k⟩
end
end L3
set_option maxRecDepth 100000
set_option maxHeartbeats 4000000
/-! CmI: the rules with the written part named, so that a reading within a comprehension does not hang on its frame. -/
namespace L3
open PySem PySem.Spec PyProof.Rows L2 He
section
variable {X : Cx} {K : PySem.W.Frag}
theorem ixK (hK : X.K = K := by rfl) : IxR X (rAt K) := hK ▸ ix_at
theorem plusK (hK : X.K = K := by rfl) : OpR X (binaryOp .Add) (rPlus K) := hK ▸ op_plus
theorem sameK (hu : X.A.units + 64 < cLine) (hK : X.K = K := by rfl) : OpR X (compareOp .Eq) (rSame K) := hK ▸ op_same hu
theorem otherK (hu : X.A.units + 64 < cLine) (hK : X.K = K := by rfl) : OpR X (compareOp .NotEq) (rOther K) := hK ▸ op_other hu
theorem inK (hK : X.K = K := by rfl) : OpR X (compareOp .In) (rIn K false) := hK ▸ op_in_seq
theorem notInK (hK : X.K = K := by rfl) : OpR X (compareOp .NotIn) (rIn K true) := hK ▸ op_notIn_seq
theorem lenK (hK : X.K = K := by rfl) : CallR X (.builtin "len") (LenS K) := hK ▸ cr_len
theorem isiK (hK : X.K = K := by rfl) : CallR X (.builtin "isinstance") (rIsi K) := hK ▸ call_isi
theorem isiTK (hK : X.K = K := by rfl) : CallR X (.builtin "isinstance") (rIsiT K) := hK ▸ call_isiT
theorem listK (hK : X.K = K := by rfl) : CallR X (.type "list") (ListS K) := hK ▸ cr_list
def TupS (K : PySem.W.Frag) : List V → Hp → VK → Prop := fun xs H Q => ∃ p ys, xs = [.ref p] ∧ ((SqL K H p ys ∧ ∀ l, H l = none → Q (.ref l) (upd H l (.tup ys))) ∨ (SqT K H p ys ∧ Q (.ref p) H))
theorem tupK (hK : X.K = K := by rfl) : CallR X (.type "tuple") (TupS K) := hK ▸ call_tuple_of
theorem sumK (hc : X.calm = true) (hK : X.K = K := by rfl) : CallR X (.builtin "sum") (rSum K) := hK ▸ cr_sum hc
theorem maxK (hc : X.calm = true) (hK : X.K = K := by rfl) : CallR X (.builtin "max") (rMax K) := hK ▸ cr_max hc
theorem minK (hc : X.calm = true) (hK : X.K = K := by rfl) : CallR X (.builtin "min") (rMin K) := hK ▸ cr_min hc
theorem allK (hc : X.calm = true) (hK : X.K = K := by rfl) : CallR X (.builtin "all") (rAll K) := hK ▸ cr_all hc
theorem anyK (hc : X.calm = true) (hK : X.K = K := by rfl) : CallR X (.builtin "any") (rAny K) := hK ▸ cr_any hc
theorem sortedK (hK : X.K = K := by rfl) : CallR X (.builtin "sorted") (rSortedI K) := hK ▸ cr_sortedI
theorem slK (hK : X.K = K := by rfl) : SlR X (rSlL K) := hK ▸ sl_list
theorem kdictK (hK : X.K = K := by rfl) : IxR X (rIxD K X.w) := hK ▸ ix_kdict
theorem getLK (hK : X.K = K := by rfl) : PGet X (rGetL K) := hK ▸ get_list
theorem indexK (hK : X.K = K := by rfl) : MtR X "list.index" (rIndex K) := hK ▸ mt_index
theorem peBM {T : String} {r : V → List V → Hp → VK → Prop} {to : TE} {t : TA} {e : Expr} (h : PE X e (tBM X.K T r to t)) (hK : X.K = K := by rfl) : PE X e (tBM K T r to t) := hK ▸ h
theorem peBM0 {T : String} {r : V → List V → Hp → VK → Prop} {to : TE} {e : Expr} (h : PE X e (tBM0 X.K T r to)) (hK : X.K = K := by rfl) : PE X e (tBM0 K T r to) := hK ▸ h
theorem piL {tg l : Expr} {tl : TE} (hl : PE X l tl) (hK : X.K = K := by rfl) : PI X tg l (iList K tl) := hK ▸ pi_list hl
theorem piT {tg l : Expr} {tl : TE} (hl : PE X l tl) (hK : X.K = K := by rfl) : PI X tg l (iTup K tl) := hK ▸ pi_tup hl
theorem pgT {es : List Expr} {k : Nat} {t : TGs} {n : Nat} {pos : Pos} (h : PG X (.Tuple es k pos) (gTup X.K n t)) (hK : X.K = K := by rfl) : PG X (.Tuple es k pos) (gTup K n t) := hK ▸ h
theorem pgL {es : List Expr} {k : Nat} {t : TGs} {n : Nat} {pos : Pos} (h : PG X (.Tuple es k pos) (gLst X.K n t)) (hK : X.K = K := by rfl) : PG X (.Tuple es k pos) (gLst K n t) := hK ▸ h
end
end L3
namespace L3
open PySem PySem.Spec PyProof.Rows L2 He
section
variable {K : PySem.W.Frag} {H H' : Hp} {Q : VK}
theorem ite_nt {A B : Prop} (h : B) : if (!true) = true then A else B := h
theorem ite_nf {A B : Prop} (h : A) : if (!false) = true then A else B := h
/-- a list or a tuple of these -/
def Seq (K : PySem.W.Frag) (H : Hp) (a : Addr) (xs : List V) : Prop := SqL K H a xs ∨ SqT K H a xs
theorem Ext.sq {a : Addr} {xs : List V} (e : Ext H H') (h : Seq K H a xs) : Seq K H' a xs := h.elim (fun h => .inl (e.l h)) fun h => .inr (e.tu h)
theorem r_lenA {p : Addr} {ys : List V} {n : Int} (h : Seq K H p ys) (e : (ys.length : Int) = n) (k : Q (.int n) H) : LenS K [.ref p] H Q := ⟨p, ys, rfl, h, by rw [e]; exact k⟩
theorem r_atA {p : Addr} {xs : List V} {i : Int} {v : V} (h : Seq K H p xs) (e : atI xs i = some v) (k : Q v H) : rAt K (.ref p) (.int i) H Q := h.elim (fun h => r_atL h e k) fun h => r_atT h e k
def itemsD : PyData → List PyData
  | .list ds => ds
  | .tuple ds => ds
  | _ => []
theorem dp_seq {x : V} {d : PyData} (h : Dp K H x d) (c : (isB (tyD d) "list" || isB (tyD d) "tuple") = true) : ∃ a xs, x = .ref a ∧ Seq K H a xs ∧ DpAll K H xs (itemsD d) := by
  cases h with
  | lst h hs => exact ⟨_, _, rfl, .inl h, hs⟩
  | tup h hs => exact ⟨_, _, rfl, .inr h, hs⟩
  | _ => simp [isB, tyD] at c
/-- n deep at most, each list short -/
def smallD : Nat → PyData → Prop
  | 0, _ => False
  | n + 1, d => (itemsD d).length ≤ 100000 ∧ ∀ e ∈ itemsD d, smallD n e
theorem small_int (n : Nat) (i : Int) : smallD (n + 1) (.int i) := ⟨Nat.zero_le _, fun _ h => absurd h (List.not_mem_nil)⟩
theorem small_str (n : Nat) (i : Str) : smallD (n + 1) (.str i) := ⟨Nat.zero_le _, fun _ h => absurd h (List.not_mem_nil)⟩
theorem small_bool (n : Nat) (i : Bool) : smallD (n + 1) (.bool i) := ⟨Nat.zero_le _, fun _ h => absurd h (List.not_mem_nil)⟩
theorem small_none (n : Nat) : smallD (n + 1) .none := ⟨Nat.zero_le _, fun _ h => absurd h (List.not_mem_nil)⟩
theorem small_ints (n : Nat) {ns : List Int} (h : ns.length ≤ 100000) : smallD (n + 2) (.list (ns.map PyData.int)) := ⟨by show (ns.map PyData.int).length ≤ _; rw [List.length_map]; exact h, fun e he => by
  obtain ⟨i, _, rfl⟩ := List.mem_map.mp he
  exact small_int n i⟩
theorem small_tup {n : Nat} {ds : List PyData} (h : ds.length ≤ 100000) (k : ∀ e ∈ ds, smallD n e) : smallD (n + 1) (.tuple ds) := ⟨h, k⟩
theorem small_list {n : Nat} {ds : List PyData} (h : ds.length ≤ 100000) (k : ∀ e ∈ ds, smallD n e) : smallD (n + 1) (.list ds) := ⟨h, k⟩
theorem small_mono : ∀ {n m : Nat} {d : PyData}, n ≤ m → smallD n d → smallD m d
  | 0, _, _, _, h => h.elim
  | n + 1, m + 1, d, hm, h => ⟨h.1, fun e he => small_mono (by omega) (h.2 e he)⟩
/-- the same data twice -/
def spSame (K : PySem.W.Frag) (n : Nat) : Sp := fun vs H Q _ => ∃ (x y : V) (d : PyData), vs = [x, y] ∧ Dp K H x d ∧ Dp K H y d ∧ smallD n d ∧ ∀ H', Ext H H' → Q (.bl true) H'
theorem dp_flat {x : V} {d : PyData} (h : Dp K H x d) (c : (isB (tyD d) "list" || isB (tyD d) "tuple") = false) : (d = .none ∧ x = .non) ∨ ((isB (tyD d) "bool" || (isB (tyD d) "int" || isB (tyD d) "str")) = true ∧ x ≠ .non ∧ scal x x = true) := by
  cases h with
  | lst h hs => simp [isB, tyD] at c
  | tup h hs => simp [isB, tyD] at c
  | non => exact .inl ⟨rfl, rfl⟩
  | bl b => exact .inr ⟨by simp [isB, tyD], by simp, rfl⟩
  | int b => exact .inr ⟨by simp [isB, tyD], by simp, rfl⟩
  | str b => exact .inr ⟨by simp [isB, tyD], by simp, rfl⟩
theorem dp_det {x y : V} {d : PyData} (hx : Dp K H x d) (hy : Dp K H y d) (c : (isB (tyD d) "list" || isB (tyD d) "tuple") = false) : x = y := by
  cases hx <;> cases hy <;> first | rfl | simp [isB, tyD] at c
theorem dp_nodict {x : V} {d : PyData} (h : Dp K H x d) : isB (tyD d) "dict" = false := by cases h <;> simp [isB, tyD]
theorem bools_all (n : Nat) : ((List.range n).map fun _ => true).all id = true := by simp
theorem map_bl (n : Nat) : (List.range n).map (fun _ => V.bl true) = ((List.range n).map fun _ => true).map V.bl := by simp
end
end L3
namespace L3
open PySem PySem.Spec PyProof.Rows L2 He
/-- up to the line of sizes -/
theorem LcP.pushB {H1 H' H4 : Hp} {Dl : Addr} {f : Nat → V} {i : Nat} {y : V} (p : LcP H1 Dl f i H') (hD : H1 Dl = none) (hi : i < 16777216) (e : Ext H' H4) (ey : y = f i) : ∃ acc, H4 Dl = some (.lst acc) ∧ acc.length < sizeLine ∧ LcP H1 Dl f (i + 1) (upd H4 Dl (.lst (acc ++ [y]))) := by
  refine ⟨_, e _ _ p.d, ?_, Ext.mut (p.e.trans e) hD, ?_⟩
  · rw [List.length_map, List.length_range, sizeLine_eq]
    exact hi
  · rw [upd_same, List.range_succ, List.map_append, ey]
    rfl
end L3
namespace L3
open PySem PySem.Spec PyProof.Rows L2 He
/-! ### the def that tells an error, called in a suite -/
theorem Kits.yes {K : PySem.W.Frag} {b : Str} {xs : List Str} (k : Kits K b xs) {x : Str} (hx : x ∈ xs) : PySem.W.kitOne K (.ref (ga K x)) (.ref (ga K x)) = some true := by
  have h := k.kit x hx x hx
  rwa [show decide (x = x) = true from decide_eq_true rfl] at h
theorem Kits.no {K : PySem.W.Frag} {b : Str} {xs : List Str} (k : Kits K b xs) {x y : Str} (hx : x ∈ xs) (hy : y ∈ xs) (n : x ≠ y) : PySem.W.kitOne K (.ref (ga K x)) (.ref (ga K y)) = some false := by
  have h := k.kit x hx y hy
  rwa [show decide (x = y) = false from decide_eq_false n] at h
theorem r_isP {K : PySem.W.Frag} {D a dd C : Addr} {b : Bool} {fs : List (Str × V)} {H : Hp} {Q : VK} (hd : H dd = some (.xd fs)) (hk : PySem.W.kitOne K (.ref D) (.ref C) = some b) (k : Q (.bl b) H) : rIsP K D a dd [.ref a, .ref C] H Q :=
  ⟨_, .ref C, b, fs, rfl, hd, fun _ r => r, hk, k⟩
theorem r_isPV {K : PySem.W.Frag} {D a dd : Addr} {n : String} {b : Bool} {fs : List (Str × V)} {H : Hp} {Q : VK} (hd : H dd = some (.xd fs)) (hk : PySem.W.kitOne K (.ref D) (.type n) = some b) (k : Q (.bl b) H) : rIsP K D a dd [.ref a, .ty n] H Q :=
  ⟨_, .type n, b, fs, rfl, hd, fun _ r => r, hk, k⟩
theorem r_xp {D a dd : Addr} {f : Str} {te : TE} {σ : L2.St} {H : Hp} {Q : VK} (k : te σ H fun x H1 => x = .ref a ∧ ∃ (fs : List (Str × V)) (v : V), H1 dd = some (.xd fs) ∧ fs.lookup f = some v ∧ Q v H1) : tXp D a dd f te σ H Q := k
/-- what a def called in a suite promises of the handled error: its place, its class, its dict -/
abbrev SpF := Addr → Value → Option Addr → Sp
def onP (s : SpF) : SpP := fun p => s p.1 p.2.cls p.2.dict
/-- tells of an error of the class x: the tuple of its name and its fields -/
def spFlt (K : PySem.W.Frag) (x : Str) (fs : List Str) : SpF := fun a cls d vs H Q _ => ∃ (dd : Addr) (kv : List (Str × V)) (us : List V), vs = [.ref a] ∧ (cls = .ref (ga K x) ∧ d = some dd) ∧ H dd = some (.xd kv) ∧ fs.map (fun f => kv.lookup f) = us.map some ∧
  ∀ q H', H q = none → Ext H H' → H' q = some (.tup (.str x :: us)) → Q (.ref q) H'
def spFlts (K : PySem.W.Frag) (l : List (Str × List Str)) : SpF := fun a cls d vs H Q E => ∃ x ∈ l, spFlt K x.1 x.2 a cls d vs H Q E
theorem fnP_any {P : Program} {w : World} {K : PySem.W.Frag} {mg : Str → Option Value} {base : Heap} {CX : CXT} {k : Nat} {f : Addr} {fd : FuncData} {ps : List Str} {l : List (Str × List Str)} (h : ∀ x ∈ l, FnP P w K mg base CX k f fd ps (onP (spFlt K x.1 x.2))) :
    FnP P w K mg base CX k f fd ps (onP (spFlts K l)) :=
  ⟨fun p vs H Q E ⟨x, hx, z⟩ => (h x hx).len p vs H Q E z, fun p A outer s H args us vs Q E h1 h2 h3 h4 h5 h6 ⟨x, hx, z⟩ => (h x hx).run p A outer s H args us vs Q E h1 h2 h3 h4 h5 h6 z⟩
structure FaultG (P : Program) (w : World) (K : PySem.W.Frag) (mg : Str → Option Value) (base : Heap) (l : List (Str × List Str)) : Prop where
  g : mg "_law_fault" = some (.ref (ga K "_law_fault"))
  kp : PySem.W.keepIn K (.ref (ga K "_law_fault")) = true
  ok : ∃ fd, FnP P w K mg base (L2N.CX P w) 1 (ga K "_law_fault") fd ["error"] (onP (spFlts K l)) ∧ Binds K fd ["error"] []
theorem hotOf {A : Around} {a : Addr} {oe : Obj} {cls : Value} {d : Option Addr} (hz : L2N.Zn cls d oe) (hf : ∃ vs, oe.data = .fields vs) : L2H.Hot1 (A.mark (some (.ref a))) (a, oe) := by
  obtain ⟨vs, e⟩ := hf
  exact ⟨rfl, vs, e, hz.2.2 vs e⟩
/-- _law_fault(error) in the suite -/
theorem pe_fault {X : Cx} {l : List (Str × List Str)} {a : Addr} {oe : Obj} {cls : Value} {d : Option Addr} {q pos : Pos} {e : Expr} {te : TE} (c : FaultG X.prog X.w X.K X.mg X.base l) (hr : L2H.RoomH 1 X.A) (hz : L2N.Zn cls d oe) (hot : L2H.Hot1 X.A (a, oe)) (hp : (a, oe) ∈ X.pn) (he : PE X e te)
    (hg : Gl X "_law_fault" := by rfl) (h2 : starEach [e] X.env = (false, eval e X.env) :: starEach [] X.env := by rfl) (hpl : (backTo pos (starEach ([] : List Expr) X.env)).any (·.1) = false := by rfl) :
    PE X (.Call (.Name "_law_fault" q) [e] [] pos) (tCallS (spFlts X.K l a cls d) (WE fun _ _ _ _ => False) (tCons te tNil)) := by
  obtain ⟨fd, F, b⟩ := c.ok
  have key := pe_callP (p := (a, oe)) (q := q) (pos := pos) F hr hot hp hg c.g c.kp b passN (pa_cons he pa_nil (hs := h2)) (by decide) h2 hpl
  obtain ⟨e1, e2, _⟩ := hz
  unfold onP at key
  dsimp only at key
  rw [e1, e2] at key
  exact key
/-- one clause «except X as n», X the base of the module's errors -/
theorem r_wAs {K : PySem.W.Frag} {c : Value} {i : Nat} {ts : Addr → Value → Option Addr → TS} {Wout : WX} {D : Ends} {cls : Value} {d : Option Addr} {σ : L2.St} {H : Hp} (e : PySem.W.exmOne K cls c = some true)
    (k : ∀ a, H a = none → ts a cls d ⟨fun σ' H' => D.nx (σ'.set i none) H', D.rt, fun σ' H' => D.bk (σ'.set i none) H', fun σ' H' => D.ct (σ'.set i none) H'⟩ (σ.set i (some (.ref a))) H) : wAs K c i ts Wout D cls d σ H :=
  ⟨true, e, fun _ => k, fun z => nomatch z⟩
end L3
namespace L3
open PySem PySem.Spec PyProof.Rows L2 He
/-- what a try's body is run with -/
structure TryZ (X : Cx) (W : L2.WX) where
  pn : List (Addr × Obj)
  xe : Value → Shared → Prop
  tk : L2N.Takes (X.tr pn xe) W
  hp : PassesOwn (model X.prog X.w) X.A X.env xe
/-- try: .. except x as n: .., the body's reading free to be found -/
theorem ps_tryZ {X : Cx} {x n : Str} {c : Value} {i : Nat} {body suite : List Stmt} {b₀ : Stmt} {np pos pos' : Pos} {tb : (W : L2.WX) → TryZ X W → TS} {ts : Addr → Value → Option Addr → TS} {Wout : L2.WX}
    (hs : X.stack = X.env :: X.outer) (hf : X.env.frame = some X.env.locals) (hN : X.N.Nodup) (hi : X.N[i]? = some n) (hln : X.env.kindOf n = some .local) (hc : Names X x c) (tk : L2N.Takes X Wout)
    (hb : ∀ (W : L2.WX) (z : TryZ X W), PSs (X.tr z.pn z.xe) body (tb W z))
    (hsu : ∀ (a : Addr) (oe : Obj) (cls : Value) (d : Option Addr) (pn : List (Addr × Obj)), L2N.Zn cls d oe → (∃ vs, oe.data = .fields vs) → PSs (X.suite a ((a, oe) :: pn)) (b₀ :: suite) (ts a cls d)) :
    PS X (.Try body [.ExceptHandler (some (.Name x np)) (some n) (b₀ :: suite) pos'] [] [] pos) (fun D σ H => ∀ z : TryZ X (wAs X.K c i ts Wout D), tb _ z D σ H) :=
  L2N.ps_try_as (tb := fun W D σ H => ∀ z : TryZ X W, tb W z D σ H) hs hf hN hi hln hc tk (fun W pn xe tk hp => ⟨fun pins s σ H D I h => (hb W ⟨pn, xe, tk, hp⟩).run pins s σ H D I (h _)⟩) hsu
end L3
namespace L3
open PySem PySem.Spec PyProof.Rows L2 He
/-- a callee's error: its class, its one field -/
def Bad (K : PySem.W.Frag) (E : XK) (H : Hp) (C what : Str) : Prop := ∀ d H', H d = none → Ext H H' → H' d = some (.xd [("what", .str what)]) → E (.ref (ga K C)) (some d) H'
theorem r_flt1 {K : PySem.W.Frag} {l : List (Str × List Str)} {x f : Str} {a dd : Addr} {v : V} {H : Hp} {Q : VK} {E : XK} (hx : (x, [f]) ∈ l) (hd : H dd = some (.xd [(f, v)])) (k : ∀ q H', H q = none → Ext H H' → H' q = some (.tup [.str x, v]) → Q (.ref q) H') :
    spFlts K l a (.ref (ga K x)) (some dd) [.ref a] H Q E := ⟨(x, [f]), hx, dd, _, [v], rfl, ⟨rfl, rfl⟩, hd, by simp [List.lookup], k⟩
/-- told in the suite -/
theorem bad_tell {K : PySem.W.Frag} {c : Value} {l : List (Str × List Str)} {i : Nat} {Wout : L2.WX} {D : Ends} {σ : L2.St} {H1 : Hp} {C what : Str} (e : PySem.W.exmOne K (.ref (ga K C)) c = some true) (hl : (C, (["what"] : List Str)) ∈ l) (hi : i < σ.length)
    (k : ∀ q H', Ext H1 H' → H' q = some (.tup [.str C, .str what]) → D.rt (.ref q) H') : Bad K (WE (wAs K c i (fun a cls d => tRet (tCallS (spFlts K l a cls d) (WE fun _ _ _ _ => False) (tCons (tVar i) tNil))) Wout D) σ) H1 C what := by
  intro d H' hd e1 h
  refine r_wAs e fun a ha => ?_
  exact ⟨.ref a, by simp [hi], r_flt1 hl h fun q H2 hq e2 h2 => k q H2 (e1.trans e2) h2⟩
end L3
namespace L3
open PySem PySem.Spec PyProof.Rows L2 He
theorem r_chain {r r' : R2} {ta tb tc : TE} {σ : L2.St} {H : Hp} {Q : VK} (k : ta σ H fun x H1 => tb σ H1 fun y H2 => r x y H2 fun z H3 => ∃ k, z = .bl k ∧ (if k = true then tc σ H3 fun w' H4 => r' y w' H4 Q else Q (.bl false) H3)) : tChain r r' ta tb tc σ H Q := k
/-- the script, apart from what changes -/
def Sc (K : PySem.W.Frag) (S : List Addr) (a : Addr) (xs : List V) (H : Hp) : Prop := SqL K H a xs ∧ ((∀ H', SqL K H' a xs) ∨ (a ∉ S ∧ H a ≠ none))
theorem Sc.start {K : PySem.W.Frag} {S : List Addr} {a : Addr} {xs : List V} {H : Hp} (h : SqL K H a xs) (hS : ∀ q ∈ S, H q = none) : Sc K S a xs H := by
  rcases h with (h | ⟨o, h⟩) | h
  · exact ⟨.inl (.inl h), .inr ⟨fun z => (by rw [hS a z] at h; cases h), (by rw [h]; exact fun z => nomatch z)⟩⟩
  · exact ⟨.inl (.inr ⟨o, h⟩), .inr ⟨fun z => (by rw [hS a z] at h; cases h), (by rw [h]; exact fun z => nomatch z)⟩⟩
  · exact ⟨.inr h, .inl fun _ => .inr h⟩
theorem Sc.ext {K : PySem.W.Frag} {S : List Addr} {a : Addr} {xs : List V} {H H' : Hp} (s : Sc K S a xs H) (e : Ext H H') : Sc K S a xs H' :=
  ⟨e.l s.1, s.2.imp id fun ⟨h1, h2⟩ => ⟨h1, by
    cases q : H a with
    | none => exact absurd q h2
    | some o => rw [e _ _ q]; exact fun z => nomatch z⟩⟩
theorem Sc.but {K : PySem.W.Frag} {S : List Addr} {a p : Addr} {xs : List V} {H H' : Hp} (s : Sc K S a xs H) (hp : p ∈ S) (b : But p H H') : Sc K S a xs H' := by
  rcases s.2 with h | ⟨h1, h2⟩
  · exact ⟨h _, .inl h⟩
  · have ne : a ≠ p := fun e => h1 (e ▸ hp)
    refine ⟨b.l ne s.1, .inr ⟨h1, ?_⟩⟩
    cases q : H a with
    | none => exact absurd q h2
    | some o => rw [b _ _ ne q]; exact fun z => nomatch z
theorem Sc.more {K : PySem.W.Frag} {S S' : List Addr} {a : Addr} {xs : List V} {H : Hp} (s : Sc K S a xs H) (hS : ∀ q ∈ S', q ∈ S ∨ H q = none) : Sc K S' a xs H :=
  ⟨s.1, s.2.imp id fun ⟨h1, h2⟩ => ⟨fun z => (hS a z).elim h1 h2, h2⟩⟩
theorem src_some {H : Hp} {p : Addr} (a : Src H p) : H p ≠ none := by
  obtain ⟨x, y, z, h⟩ := a
  rw [h]
  exact fun z => nomatch z
theorem Src.stay {H H' : Hp} {p q : Addr} (s : Src H p) (b : But q H H') (h : p ≠ q) : Src H' p := by
  obtain ⟨x, y, z, e⟩ := s
  exact ⟨x, y, z, b _ _ h e⟩
end L3
set_option maxRecDepth 100000
set_option maxHeartbeats 4000000
/-! CmJ: list(range(..)), forwards and down; reversed lists; the greatest of a list. -/
namespace L3
open PySem PySem.Spec PyProof.Rows L2 He
/-- the ints i, i - 1, .., above j -/
def dnV (i j : Int) : List V := (List.range (i - j).toNat).map fun k => V.int (i + (k : Nat) * -1)
def LstDn (vs : List V) (H1 : Hp) (Q : VK) : Prop := ∃ i j : Int, vs = [.int i, .int j, .int (-1)] ∧ RgOk j i ∧ ∀ q, H1 q = none → Q (.ref q) (upd H1 q (.lst (dnV i j)))
def tLstDn (ta : TA) : TE := fun σ H Q => ta σ H fun vs H1 => LstDn vs H1 Q
theorem pe_listDn {X : Cx} {a b c : Expr} {ta : TA} {p p2 pos pos2 : Pos} (hc : X.calm = true) (hml : X.mg "list" = none) (hm : X.mg "range" = none) (ha : PA X [a, b, c] ta) (hgl : Gl X "list" := by rfl) (hg : Gl X "range" := by rfl)
    (hs : starEach [a, b, c] X.env = (false, eval a X.env) :: starEach [b, c] X.env := by rfl) (hpl : (backTo pos2 (starEach [b, c] X.env)).any (·.1) = false := by rfl)
    (na : starEach [.Call (.Name "range" p2) [a, b, c] [] pos2] X.env = (false, eval (.Call (.Name "range" p2) [a, b, c] [] pos2) X.env) :: starEach [] X.env := by rfl) :
    PE X (.Call (.Name "list" p) [.Call (.Name "range" p2) [a, b, c] [] pos2] [] pos) (tLstDn ta) := by
  refine ⟨fun pins s σ H Q I h => ?_⟩
  refine Call_ (ld_blt I hgl hml boot_list (PyProof.Rows.callWith_type1 (args_cons (thn (Q := fun x s1 => ∃ r i j t u v H1, x = Value.ref r ∧ IsRange s1.heap r i j (-1) t u v ∧ Inv X pins σ H1 s1 ∧ RgOk j i ∧ ∀ q, H1 q = none → Q (.ref q) (upd H1 q (.lst (dnV i j)))) ?_ fun x s1 ⟨r, i, j, t, u, v, H1, ex, hr, I1, ok, q⟩ => args_nil ?_) na) na))
  · refine Call_ (ld_blt I hg hm boot_range (PyProof.Rows.callWith_type1 (thn (ha.run pos2 pins s σ H _ I h) fun us s1 ⟨vs, H1, I1, r1, q1⟩ => ?_) hs hpl))
    obtain ⟨i, j, e, ok, q⟩ := q1
    subst e
    cases r1 with
    | cons r rr =>
      cases rr with
      | cons r' rr =>
        cases rr with
        | cons r'' rr =>
          cases rr
          obtain ⟨t, rfl⟩ := r
          obtain ⟨t', rfl⟩ := r'
          obtain ⟨t'', rfl⟩ := r''
          exact call_range_3 (by decide) ⟨_, i, j, _, _, _, H1, rfl, IsRange.new _ _ _ _ _ _ _, I1.kept fun b u e => Heap.get?_push_of_some _ e, ok, q⟩ (.inl (PyProof.noPylong_small (by decide)))
  · subst ex
    obtain ⟨b1, b2, b3, b4, b5⟩ := ok
    refine call_list_range (n := (i - j).toNat) (I1.ok.hd hc) hr (PySem.W.small_down b3 b4 b1 b2) (PySem.W.rangeSize_downNat i j) b5 fun h' tk acc c' hk e' hi => ?_
    refine ⟨.ref s1.heap.objs.size, upd H1 s1.heap.objs.size (.lst (dnV i j)), I1.laid hk (Nat.le_refl _) (show ObjOk X.prog X.w _ _ _ (.lst (dnV i j)) from ⟨?_, acc.toList, c', ?_, ?_⟩), rfl, q _ (I1.hok.fresh (Nat.le_refl _))⟩
    · unfold dnV; rw [List.length_map, List.length_range, sizeLine_eq]; omega
    · have e : acc.toList.length = (i - j).toNat := by rw [Array.length_toList]; exact hi.1
      unfold dnV
      rw [← e]
      refine vals_of_get acc.toList _ fun k u hj => ?_
      obtain ⟨t, rfl⟩ := hi.2 k u (by rw [← hj, Array.getElem?_toList])
      exact ⟨t, rfl⟩
    · rw [Array.toArray_toList]; exact e'
section
variable {K : PySem.W.Frag} {σ : L2.St} {H : Hp} {Q : VK}
theorem r_listDn {ta : TA} (k : ta σ H fun vs H1 => LstDn vs H1 Q) : tLstDn ta σ H Q := k
theorem r_dn {i j : Int} (h : RgOk j i) (k : ∀ q H', H q = none → Ext H H' → H' q = some (.lst (dnV i j)) → Q (.ref q) H') : LstDn [V.int i, V.int j, V.int (-1)] H Q := ⟨i, j, rfl, h, fun q hq => k q _ hq (Ext.new hq) upd_same⟩
def LstRg (x y : V) (H1 : Hp) (Q : VK) : Prop := ∃ i j : Int, x = .int i ∧ y = .int j ∧ RgOk i j ∧ ∀ q, H1 q = none → Q (.ref q) (upd H1 q (.lst (rgV i j)))
theorem r_listRg2 {ta tb : TE} (k : ta σ H fun x H1 => tb σ H1 fun y H2 => LstRg x y H2 Q) : tLstRg (tRg2 ta tb) σ H Q := by
  unfold tLstRg tRg2
  unfold LstRg at k
  have e : (fun (x : V) (H1 : Hp) => tb σ H1 fun y H2 => ∃ i j : Int, x = .int i ∧ y = .int j ∧ RgOk i j ∧ ∀ q, H2 q = none → Q (.ref q) (upd H2 q (.lst (rgV i j)))) = fun (x : V) (H1 : Hp) => tb σ H1 fun y H2 => ∃ i j : Int, x = .int i ∧ y = .int j ∧ (RgOk i j ∧ ∀ q, H2 q = none → Q (.ref q) (upd H2 q (.lst (rgV i j)))) := rfl
  exact k
theorem r_rg {i j : Int} (h : RgOk i j) (k : ∀ q H', H q = none → Ext H H' → H' q = some (.lst (rgV i j)) → Q (.ref q) H') : LstRg (V.int i) (V.int j) H Q := ⟨i, j, rfl, rfl, h, fun q hq => k q _ hq (Ext.new hq) upd_same⟩
def RevL (K : PySem.W.Frag) (x : V) (H1 : Hp) (Q : VK) : Prop := ∃ a xs, x = .ref a ∧ SqL K H1 a xs ∧ ∀ p, H1 p = none → Q (.ref p) (upd H1 p (.lst xs.reverse))
theorem r_revL {te : TE} (k : te σ H fun x H1 => RevL K x H1 Q) : tRevL K te σ H Q := k
theorem r_rev {a : Addr} {xs : List V} (h : SqL K H a xs) (k : ∀ q H', H q = none → Ext H H' → H' q = some (.lst xs.reverse) → Q (.ref q) H') : RevL K (.ref a) H Q := ⟨a, xs, rfl, h, fun q hq => k q _ hq (Ext.new hq) upd_same⟩
theorem revK {X : Cx} {e : Expr} {te : TE} {k : Nat} {p1 p2 p3 pos : Pos} (he : PE X e te) (hK : X.K = K := by rfl) : PE X (.Subscript e (.Slice none none (some (.UnaryOp .USub (.Constant (.int 1) k p1) p2)) p3) pos) (tRevL K te) := hK ▸ pe_revL he
theorem r_maxL {p : Addr} {ns : List Int} {m : Int} (h : SqL K H p (ns.map V.int)) (hm : m ∈ ns) (hl : ∀ y ∈ ns, y ≤ m) (k : Q (.int m) H) : rMax K [.ref p] H Q :=
  ⟨p, ns, rfl, h, List.length_pos_of_mem hm, fun m' h1 h2 => by
    have : m' = m := Int.le_antisymm (hl _ h1) (h2 _ hm)
    rw [this]; exact k⟩
theorem r_minL {p : Addr} {ns : List Int} {m : Int} (h : SqL K H p (ns.map V.int)) (hm : m ∈ ns) (hl : ∀ y ∈ ns, m ≤ y) (k : Q (.int m) H) : rMin K [.ref p] H Q :=
  ⟨p, ns, rfl, h, List.length_pos_of_mem hm, fun m' h1 h2 => by
    have : m' = m := Int.le_antisymm (h2 _ hm) (hl _ h1)
    rw [this]; exact k⟩
theorem r_popW {l : Addr} {xs : List V} {y : V} (h : H l = some (.lst (xs ++ [y]))) (k : ∀ H', H' l = some (.lst xs) → (∀ b, b ≠ l → H' b = H b) → Q y H') : rPop (.ref l) [] H Q := r_popL h k
end
end L3
/-! Delannoy numbers, in plain Lean. -/
namespace Del
def D : Nat → Nat → Nat
  | 0, _ => 1
  | _ + 1, 0 => 1
  | d + 1, r + 1 => D d (r + 1) + D (d + 1) r + D d r
theorem D_0 (d : Nat) : D d 0 = 1 := by cases d <;> simp [D]
theorem D_z (r : Nat) : D 0 r = 1 := by simp [D]
theorem D_s (d r : Nat) : D (d + 1) (r + 1) = D d (r + 1) + D (d + 1) r + D d r := by rw [D]
def ch : Nat → Nat → Nat
  | _, 0 => 1
  | 0, _ + 1 => 0
  | n + 1, k + 1 => ch n k + ch n (k + 1)
theorem ch_0 (n : Nat) : ch n 0 = 1 := by cases n <;> simp [ch]
theorem ch_z (k : Nat) : ch 0 (k + 1) = 0 := by simp [ch]
theorem ch_s (n k : Nat) : ch (n + 1) (k + 1) = ch n k + ch n (k + 1) := by rw [ch]
theorem ch_big : ∀ {n k : Nat}, n < k → ch n k = 0
  | 0, k + 1, _ => ch_z k
  | n + 1, k + 1, h => by rw [ch_s, ch_big (by omega : n < k), ch_big (by omega : n < k + 1)]
theorem ch_mul : ∀ (n k : Nat), ch n (k + 1) * (k + 1) = ch n k * (n - k)
  | 0, k => by rw [ch_z]; simp
  | n + 1, 0 => by
    have h := ch_mul n 0
    rw [ch_0] at h
    rw [ch_s, ch_0, ch_0]
    simp at h ⊢
    omega
  | n + 1, k + 1 => by
    have h1 := ch_mul n k
    have h2 := ch_mul n (k + 1)
    by_cases hk : k < n
    · rw [ch_s n (k + 1), ch_s n k]
      have e1 : n + 1 - (k + 1) = n - k := by omega
      have e2 : n - k = (n - (k + 1)) + 1 := by omega
      rw [e1]
      have l : (ch n (k + 1) + ch n (k + 1 + 1)) * (k + 1 + 1) = ch n (k + 1) * (k + 1) + ch n (k + 1) + ch n (k + 1 + 1) * (k + 1 + 1) := by
        rw [Nat.add_mul, Nat.mul_succ (ch n (k + 1))]
      rw [l, h1, h2, Nat.add_mul]
      have m : ch n (k + 1) * (n - k) = ch n (k + 1) * (n - (k + 1)) + ch n (k + 1) := by rw [e2, Nat.mul_succ] <;> omega
      rw [m]
      omega
    · rw [ch_big (by omega : n + 1 < k + 1 + 1)]
      have e1 : n + 1 - (k + 1) = 0 := by omega
      rw [e1]
      simp
/-- the sum of f 0 .. f (n - 1) -/
def sm (f : Nat → Nat) : Nat → Nat
  | 0 => 0
  | n + 1 => sm f n + f n
theorem sm_add (f g : Nat → Nat) : ∀ n, sm (fun s => f s + g s) n = sm f n + sm g n
  | 0 => rfl
  | n + 1 => by show sm (fun s => f s + g s) n + (f n + g n) = sm f n + f n + (sm g n + g n); rw [sm_add f g n]; omega
theorem sm_congr {f g : Nat → Nat} : ∀ {n}, (∀ s, s < n → f s = g s) → sm f n = sm g n
  | 0, _ => rfl
  | n + 1, h => by show sm f n + f n = sm g n + g n; rw [sm_congr fun s hs => h s (by omega), h n (by omega)]
theorem sm_shift (f : Nat → Nat) : ∀ n, sm f (n + 1) = f 0 + sm (fun s => f (s + 1)) n
  | 0 => by show 0 + f 0 = f 0 + 0; omega
  | n + 1 => by
    have h := sm_shift f n
    show sm f (n + 1) + f (n + 1) = f 0 + (sm (fun s => f (s + 1)) n + f (n + 1))
    rw [h]; omega
theorem sm_zero {f : Nat → Nat} {n : Nat} : ∀ {m}, n ≤ m → (∀ s, n ≤ s → f s = 0) → sm f m = sm f n
  | 0, h, _ => by have : n = 0 := by omega
                  subst this; rfl
  | m + 1, h, z => by
    by_cases e : n = m + 1
    · rw [e]
    · show sm f m + f m = sm f n
      rw [sm_zero (by omega) z, z m (by omega)]; rfl
def tm (d r s : Nat) : Nat := ch d s * ch r s * 2 ^ s
theorem tm_big {d r s : Nat} (h : d < s ∨ r < s) : tm d r s = 0 := by
  unfold tm
  rcases h with h | h
  · rw [ch_big h]; simp
  · rw [ch_big h]; simp
theorem S_rec (d r n : Nat) (h : d < n) : sm (tm (d + 1) (r + 1)) (n + 1) = sm (tm d (r + 1)) (n + 1) + sm (tm (d + 1) r) (n + 1) + sm (tm d r) (n + 1) := by
  have e0 : ∀ a b, sm (tm a b) (n + 1) = 1 + sm (fun s => tm a b (s + 1)) n := fun a b => by
    rw [sm_shift]
    unfold tm
    rw [ch_0, ch_0]
  rw [e0, e0, e0, e0]
  have key : ∀ s, tm (d + 1) (r + 1) (s + 1) + tm d r (s + 1) + tm d r (s + 1) = tm d (r + 1) (s + 1) + tm (d + 1) r (s + 1) + tm d r (s + 1) + (tm d r s + tm d r s) := fun s => by
    unfold tm
    rw [ch_s d s, ch_s r s, Nat.pow_succ]
    generalize ch d s = a
    generalize ch d (s + 1) = b
    generalize ch r s = x
    generalize ch r (s + 1) = y
    generalize 2 ^ s = p
    have e1 : (a + b) * (x + y) * (p * 2) = a * x * (p * 2) + a * y * (p * 2) + b * x * (p * 2) + b * y * (p * 2) := by
      simp only [Nat.add_mul, Nat.mul_add]; omega
    have e2 : b * (x + y) * (p * 2) = b * x * (p * 2) + b * y * (p * 2) := by simp only [Nat.add_mul, Nat.mul_add]
    have e3 : (a + b) * y * (p * 2) = a * y * (p * 2) + b * y * (p * 2) := by simp only [Nat.add_mul, Nat.mul_add]
    have e4 : a * x * (p * 2) = a * x * p + a * x * p := by rw [← Nat.mul_assoc]; omega
    rw [e1, e2, e3, e4]
    omega
  have sums := sm_congr (n := n) fun s _ => key s
  simp only [sm_add] at sums
  have sh := sm_shift (tm d r) n
  have e1 : tm d r 0 = 1 := by unfold tm; rw [ch_0, ch_0]
  have top : sm (tm d r) (n + 1) = sm (tm d r) n := by show sm (tm d r) n + tm d r n = _; rw [tm_big (.inl h)]; rfl
  have e2 : sm (fun s => tm d r s) n = sm (tm d r) n := rfl
  rw [e1] at sh
  omega
theorem D_sum : ∀ (d r n : Nat), d ≤ n → D d r = sm (tm d r) (n + 1)
  | 0, r, n, _ => by
    rw [D_z, sm_zero (n := 1) (by omega) fun s hs => tm_big (.inl (by omega))]
    show 1 = 0 + tm 0 r 0
    unfold tm; rw [ch_0, ch_0]
  | d + 1, 0, n, _ => by
    rw [D_0, sm_zero (n := 1) (by omega) fun s hs => tm_big (.inr (by omega))]
    show 1 = 0 + tm (d + 1) 0 0
    unfold tm; rw [ch_0, ch_0]
  | d + 1, r + 1, n, h => by
    rw [D_s, S_rec d r n (by omega), D_sum d (r + 1) n (by omega), D_sum (d + 1) r n h, D_sum d r n (by omega)]
/-- as the law reckons it: up to the lesser -/
theorem D_min (d r : Nat) : D d r = sm (tm d r) (min d r + 1) := by
  rw [D_sum d r d (Nat.le_refl _)]
  exact sm_zero (by omega) fun s hs => tm_big (by omega)
theorem tm_next (d r s : Nat) : tm d r s * 2 * (d - s) * (r - s) = tm d r (s + 1) * ((s + 1) * (s + 1)) := by
  have h1 := ch_mul d s
  have h2 := ch_mul r s
  unfold tm
  rw [Nat.pow_succ]
  have l : ch d s * ch r s * 2 ^ s * 2 * (d - s) * (r - s) = (ch d s * (d - s)) * (ch r s * (r - s)) * (2 ^ s * 2) := by
    simp only [Nat.mul_assoc, Nat.mul_comm, Nat.mul_left_comm]
  have m : ch d (s + 1) * ch r (s + 1) * (2 ^ s * 2) * ((s + 1) * (s + 1)) = (ch d (s + 1) * (s + 1)) * (ch r (s + 1) * (s + 1)) * (2 ^ s * 2) := by
    simp only [Nat.mul_assoc, Nat.mul_comm, Nat.mul_left_comm]
  rw [l, m, h1, h2]
theorem D_comm : ∀ (d r : Nat), D d r = D r d
  | 0, r => by rw [D_z, D_0]
  | d + 1, 0 => by rw [D_z, D_0]
  | d + 1, r + 1 => by rw [D_s, D_s, D_comm d (r + 1), D_comm (d + 1) r, D_comm d r]; omega
theorem D_pos : ∀ (d r : Nat), 1 ≤ D d r
  | 0, r => by rw [D_z]; omega
  | d + 1, 0 => by rw [D_0]; omega
  | d + 1, r + 1 => by rw [D_s]; have := D_pos d r; omega
theorem D_mono1 (d r : Nat) : D d r ≤ D d (r + 1) := by
  cases d with
  | zero => rw [D_z, D_z]; omega
  | succ d => rw [D_s]; omega
theorem D_lt1 (d r : Nat) (h : 1 ≤ d) : D d r + 2 ≤ D d (r + 1) := by
  cases d with
  | zero => omega
  | succ d =>
    rw [D_s]
    have h1 := D_pos d r
    have h2 := D_pos d (r + 1)
    omega
theorem D_mono (d : Nat) {r r' : Nat} (h : r ≤ r') : D d r ≤ D d r' := by
  obtain ⟨k, rfl⟩ : ∃ k, r' = r + k := ⟨r' - r, by omega⟩
  clear h
  induction k with
  | zero => exact Nat.le_refl _
  | succ k ih => exact Nat.le_trans ih (D_mono1 d (r + k))
theorem D_ge (d r : Nat) (h : 1 ≤ d) : 2 * r + 1 ≤ D d r := by
  induction r with
  | zero => exact D_pos d 0
  | succ r ih => have := D_lt1 d r h; omega
/-- r is the least with n at most D d r -/
def Least (n d r : Nat) : Prop := n ≤ D d r ∧ ∀ r', r' < r → D d r' < n
theorem Least.uniq {n d r r' : Nat} (a : Least n d r) (b : Least n d r') : r = r' := by
  rcases Nat.lt_trichotomy r r' with h | h | h
  · have := b.2 r h; have := a.1; omega
  · exact h
  · have := a.2 r' h; have := b.1; omega
theorem least_le {n d r : Nat} (hd : 1 ≤ d) (a : Least n d r) : r ≤ n := by
  refine Nat.le_of_not_lt fun h => ?_
  have h1 := a.2 (r - 1) (by omega)
  have h2 := D_ge d (r - 1) hd
  omega
end Del
set_option maxHeartbeats 1000000
/-! MLay: layouts of parts, in plain numbers: a layout of chains to d and loads to r has at most D d r parts; the built one. -/
namespace Lay
open Del
/-! ### vectors of length d, their norm at most r: at most D d r of them -/
def nrm : List Int → Nat
  | [] => 0
  | x :: xs => x.natAbs + nrm xs
theorem part4 {α : Type} (cl : α → Nat) : ∀ (L : List α), (∀ x ∈ L, cl x < 4) → L.length = (L.filter fun x => cl x == 0).length + (L.filter fun x => cl x == 1).length + (L.filter fun x => cl x == 2).length + (L.filter fun x => cl x == 3).length
  | [], _ => rfl
  | x :: L, h => by
    have ih := part4 cl L fun y hy => h y (List.mem_cons_of_mem _ hy)
    have hx := h x List.mem_cons_self
    simp only [List.filter_cons, List.length_cons]
    have : cl x = 0 ∨ cl x = 1 ∨ cl x = 2 ∨ cl x = 3 := by omega
    rcases this with e | e | e | e <;> simp [e] <;> omega
theorem nd_map {α β : Type} {f : α → β} {L : List α} (hf : ∀ x ∈ L, ∀ y ∈ L, f x = f y → x = y) (h : L.Nodup) : (L.map f).Nodup := by
  induction L with
  | nil => simp
  | cons a L ih =>
    rw [List.nodup_cons] at h
    rw [List.map_cons, List.nodup_cons]
    refine ⟨fun z => ?_, ih (fun x hx y hy => hf x (List.mem_cons_of_mem _ hx) y (List.mem_cons_of_mem _ hy)) h.2⟩
    obtain ⟨b, hb, e⟩ := List.mem_map.mp z
    exact h.1 (hf a List.mem_cons_self b (List.mem_cons_of_mem _ hb) e.symm ▸ hb)
theorem nd_append {α : Type} {L M : List α} (h1 : L.Nodup) (h2 : M.Nodup) (h : ∀ x ∈ L, x ∉ M) : (L ++ M).Nodup := by
  rw [List.nodup_append]
  exact ⟨h1, h2, fun a ha b hb e => h a ha (e ▸ hb)⟩
def cls : List Int → Nat
  | [] => 0
  | x :: _ => if x = 0 then 0 else if 0 < x then 1 else if x = -1 then 3 else 2
theorem cls_cases (y : Int) (ys : List Int) : (y = 0 ∧ cls (y :: ys) = 0) ∨ (0 < y ∧ cls (y :: ys) = 1) ∨ (y = -1 ∧ cls (y :: ys) = 3) ∨ (y < -1 ∧ cls (y :: ys) = 2) := by
  have e : cls (y :: ys) = if y = 0 then 0 else if 0 < y then 1 else if y = -1 then 3 else 2 := rfl
  by_cases h1 : y = 0
  · rw [if_pos h1] at e; exact .inl ⟨h1, e⟩
  · rw [if_neg h1] at e
    by_cases h2 : 0 < y
    · rw [if_pos h2] at e; exact .inr (.inl ⟨h2, e⟩)
    · rw [if_neg h2] at e
      by_cases h3 : y = -1
      · rw [if_pos h3] at e; exact .inr (.inr (.inl ⟨h3, e⟩))
      · rw [if_neg h3] at e; exact .inr (.inr (.inr ⟨by omega, e⟩))
def up : List Int → List Int
  | [] => []
  | x :: xs => (if 0 < x then x - 1 else x + 1) :: xs
theorem ball : ∀ (d r : Nat) (L : List (List Int)), L.Nodup → (∀ x ∈ L, x.length = d ∧ nrm x ≤ r) → L.length ≤ D d r
  | 0, r, L, hn, h => by
    rw [D_z]
    match L, hn, h with
    | [], _, _ => exact Nat.zero_le _
    | [x], _, _ => exact Nat.le_refl _
    | x :: y :: L, hn, h =>
      have e1 := (h x List.mem_cons_self).1
      have e2 := (h y (List.mem_cons_of_mem _ List.mem_cons_self)).1
      rw [List.length_eq_zero_iff] at e1 e2
      subst e1 e2
      simp at hn
  | d + 1, 0, L, hn, h => by
    rw [D_0]
    have key : ∀ x ∈ L, x = List.replicate (d + 1) 0 := fun x hx => by
      obtain ⟨hl, hr⟩ := h x hx
      clear h hn hx
      have : ∀ (n : Nat) (x : List Int), x.length = n → nrm x ≤ 0 → x = List.replicate n 0 := by
        intro n
        induction n with
        | zero => intro x hx _; exact List.length_eq_zero_iff.mp hx
        | succ n ih =>
          intro x hx hr
          match x, hx, hr with
          | y :: ys, hx, hr =>
            have h1 : y.natAbs + nrm ys ≤ 0 := hr
            rw [ih ys (by simpa using hx) (by omega), show y = 0 by omega]
            rfl
      exact this _ x hl hr
    match L, hn, key with
    | [], _, _ => exact Nat.zero_le _
    | [x], _, _ => exact Nat.le_refl _
    | x :: y :: L, hn, key =>
      have e1 := key x List.mem_cons_self
      have e2 := key y (List.mem_cons_of_mem _ List.mem_cons_self)
      subst e1
      subst e2
      simp at hn
  | d + 1, r + 1, L, hn, h => by
    have c4 : ∀ x ∈ L, cls x < 4 := fun x hx => by
      cases x with
      | nil => simp [cls]
      | cons y ys => have := cls_cases y ys; omega
    have p := part4 cls L c4
    have sh : ∀ x ∈ L, ∃ y ys, x = y :: ys ∧ ys.length = d ∧ y.natAbs + nrm ys ≤ r + 1 := fun x hx => by
      obtain ⟨h1, h2⟩ := h x hx
      match x, h1, h2 with
      | y :: ys, h1, h2 => exact ⟨y, ys, rfl, by simpa using h1, h2⟩
    have inF : ∀ {k : Nat} {x : List Int}, x ∈ (L.filter fun x => cls x == k) → x ∈ L ∧ cls x = k := fun {k x} hx => by
      rw [List.mem_filter] at hx
      exact ⟨hx.1, by simpa using hx.2⟩
    have ndF : ∀ k : Nat, (L.filter fun x => cls x == k).Nodup := fun k => hn.filter _
    have of0 : ∀ {y : Int} {ys : List Int}, cls (y :: ys) = 0 → y = 0 := fun {y ys} e => by
      have := cls_cases y ys; omega
    have of1 : ∀ {y : Int} {ys : List Int}, cls (y :: ys) = 1 → 0 < y := fun {y ys} e => by
      have := cls_cases y ys; omega
    have of2 : ∀ {y : Int} {ys : List Int}, cls (y :: ys) = 2 → y < -1 := fun {y ys} e => by
      have := cls_cases y ys; omega
    have of3 : ∀ {y : Int} {ys : List Int}, cls (y :: ys) = 3 → y = -1 := fun {y ys} e => by
      have := cls_cases y ys; omega
    have tl : ∀ k : Nat, (k = 0 ∨ k = 3) → ((L.filter fun x => cls x == k).map List.tail).Nodup := fun k hk => by
      refine nd_map (fun x hx z hz e => ?_) (ndF k)
      obtain ⟨hx1, hx2⟩ := inF hx
      obtain ⟨hz1, hz2⟩ := inF hz
      obtain ⟨y, ys, rfl, _⟩ := sh x hx1
      obtain ⟨y', ys', rfl, _⟩ := sh z hz1
      have e : ys = ys' := e
      subst e
      rcases hk with rfl | rfl
      · rw [of0 hx2, of0 hz2]
      · rw [of3 hx2, of3 hz2]
    have b0 := ball d (r + 1) _ (tl 0 (.inl rfl)) (fun x hx => by
      obtain ⟨z, hz, rfl⟩ := List.mem_map.mp hx
      obtain ⟨hz1, hz2⟩ := inF hz
      obtain ⟨y, ys, rfl, h1, h2⟩ := sh z hz1
      exact ⟨h1, by show nrm ys ≤ _; omega⟩)
    have b3 := ball d r _ (tl 3 (.inr rfl)) (fun x hx => by
      obtain ⟨z, hz, rfl⟩ := List.mem_map.mp hx
      obtain ⟨hz1, hz2⟩ := inF hz
      obtain ⟨y, ys, rfl, h1, h2⟩ := sh z hz1
      have := of3 hz2
      exact ⟨h1, by show nrm ys ≤ _; omega⟩)
    have upN : ∀ k : Nat, (k = 1 ∨ k = 2) → ((L.filter fun x => cls x == k).map up).Nodup := fun k hk => by
      refine nd_map (fun x hx z hz e => ?_) (ndF k)
      obtain ⟨hx1, hx2⟩ := inF hx
      obtain ⟨hz1, hz2⟩ := inF hz
      obtain ⟨y, ys, rfl, _⟩ := sh x hx1
      obtain ⟨y', ys', rfl, _⟩ := sh z hz1
      unfold up at e
      injection e with e1 e2
      subst e2
      rcases hk with rfl | rfl
      · have a := of1 hx2; have b := of1 hz2
        rw [if_pos a, if_pos b] at e1
        rw [show y = y' by omega]
      · have a := of2 hx2; have b := of2 hz2
        rw [if_neg (by omega), if_neg (by omega)] at e1
        rw [show y = y' by omega]
    have b12 := ball (d + 1) r (((L.filter fun x => cls x == 1).map up) ++ ((L.filter fun x => cls x == 2).map up)) (nd_append (upN 1 (.inl rfl)) (upN 2 (.inr rfl)) (fun x hx hz => by
      obtain ⟨u, hu, rfl⟩ := List.mem_map.mp hx
      obtain ⟨v, hv, e⟩ := List.mem_map.mp hz
      obtain ⟨hx1, hx2⟩ := inF hu
      obtain ⟨hz1, hz2⟩ := inF hv
      obtain ⟨y, ys, rfl, _⟩ := sh u hx1
      obtain ⟨y', ys', rfl, _⟩ := sh v hz1
      unfold up at e
      injection e with e1 e2
      have a := of1 hx2; have b := of2 hz2
      rw [if_pos a, if_neg (by omega)] at e1
      omega)) (fun x hx => by
      rcases List.mem_append.mp hx with hx | hx
      · obtain ⟨z, hz, rfl⟩ := List.mem_map.mp hx
        obtain ⟨hz1, hz2⟩ := inF hz
        obtain ⟨y, ys, rfl, h1, h2⟩ := sh z hz1
        have a := of1 hz2
        have e : up (y :: ys) = (y - 1) :: ys := by show (if 0 < y then y - 1 else y + 1) :: ys = _; rw [if_pos a]
        rw [e]
        exact ⟨by simpa using h1, by show (y - 1).natAbs + nrm ys ≤ r; omega⟩
      · obtain ⟨z, hz, rfl⟩ := List.mem_map.mp hx
        obtain ⟨hz1, hz2⟩ := inF hz
        obtain ⟨y, ys, rfl, h1, h2⟩ := sh z hz1
        have a := of2 hz2
        have e : up (y :: ys) = (y + 1) :: ys := by show (if 0 < y then y - 1 else y + 1) :: ys = _; rw [if_neg (by omega)]
        rw [e]
        exact ⟨by simpa using h1, by show (y + 1).natAbs + nrm ys ≤ r; omega⟩)
    rw [List.length_append, List.length_map, List.length_map] at b12
    rw [List.length_map] at b0 b3
    rw [D_s]
    omega
/-! ### sums over stretches of whole numbers -/
def sI (f : Int → Int) (lo : Int) : Nat → Int
  | 0 => 0
  | n + 1 => sI f lo n + f (lo + n)
theorem sI_add (f : Int → Int) (lo : Int) (a : Nat) : ∀ b : Nat, sI f lo (a + b) = sI f lo a + sI f (lo + a) b
  | 0 => by simp [sI]
  | b + 1 => by
    show sI f lo (a + b) + f (lo + (a + b : Nat)) = _ + (sI f (lo + a) b + f (lo + a + b))
    rw [sI_add f lo a b, show lo + ((a + b : Nat) : Int) = lo + a + b by omega]
    omega
theorem sI_congr {f g : Int → Int} {lo : Int} : ∀ {n : Nat}, (∀ j, lo ≤ j → j < lo + n → f j = g j) → sI f lo n = sI g lo n
  | 0, _ => rfl
  | n + 1, h => by
    show sI f lo n + _ = sI g lo n + _
    rw [sI_congr (n := n) fun j h1 h2 => h j h1 (by omega), h (lo + n) (by omega) (by omega)]
theorem sI_le {f g : Int → Int} {lo : Int} : ∀ {n : Nat}, (∀ j, lo ≤ j → j < lo + n → f j ≤ g j) → sI f lo n ≤ sI g lo n
  | 0, _ => Int.le_refl _
  | n + 1, h => by
    show sI f lo n + _ ≤ sI g lo n + _
    have h1 := sI_le (n := n) fun j h1 h2 => h j h1 (by omega)
    have h2 := h (lo + n) (by omega) (by omega)
    omega
theorem sI_plus (f g : Int → Int) (lo : Int) : ∀ n : Nat, sI (fun j => f j + g j) lo n = sI f lo n + sI g lo n
  | 0 => rfl
  | n + 1 => by
    show sI (fun j => f j + g j) lo n + (f (lo + n) + g (lo + n)) = sI f lo n + f (lo + n) + (sI g lo n + g (lo + n))
    rw [sI_plus f g lo n]
    omega
theorem sI_zero {lo : Int} : ∀ n : Nat, sI (fun _ => 0) lo n = 0
  | 0 => rfl
  | n + 1 => by show sI _ lo n + 0 = 0; rw [sI_zero n]; rfl
theorem sI_abs (f : Int → Int) (lo : Int) : ∀ n : Nat, ((sI f lo n).natAbs : Int) ≤ sI (fun j => (f j).natAbs) lo n
  | 0 => by show ((0 : Int).natAbs : Int) ≤ 0; decide
  | n + 1 => by
    have h := sI_abs f lo n
    show ((sI f lo n + f (lo + n)).natAbs : Int) ≤ sI (fun j => (f j).natAbs) lo n + ((f (lo + n)).natAbs : Int)
    omega
/-- j's way to its parent covers the part p -/
def cov (par : Int → Int) (p j : Int) : Int := if (par j ≤ p ∧ p < j) ∨ (j ≤ p ∧ p < par j) then 1 else 0
/-- the same, with its side -/
def cs (par : Int → Int) (p j : Int) : Int := if par j ≤ p ∧ p < j then 1 else if j ≤ p ∧ p < par j then -1 else 0
theorem cs_step (par : Int → Int) (p j : Int) (h : par j ≠ j) : cs par (p + 1) j = cs par p j + (if par j = p + 1 then 1 else 0) - (if j = p + 1 then 1 else 0) := by
  unfold cs
  generalize par j = q at *
  by_cases a : q ≤ p ∧ p < j
  · rw [if_pos a, if_neg (show ¬ q = p + 1 by omega)]
    by_cases b : j = p + 1
    · rw [if_neg (by omega), if_neg (by omega), if_pos b]; rfl
    · rw [if_pos (by omega), if_neg b]; rfl
  · rw [if_neg a]
    by_cases c : j ≤ p ∧ p < q
    · rw [if_pos c, if_neg (show ¬ j = p + 1 by omega), if_neg (by omega)]
      by_cases b : q = p + 1
      · rw [if_neg (by omega), if_pos b]; rfl
      · rw [if_pos (by omega), if_neg b]; rfl
    · rw [if_neg c]
      by_cases b : q = p + 1
      · rw [if_pos b, if_neg (show ¬ j = p + 1 by omega)]
        by_cases e : p + 1 < j
        · rw [if_pos (by omega)]; rfl
        · exact absurd b (by omega)
      · rw [if_neg b]
        by_cases e : j = p + 1
        · rw [if_pos e, if_neg (by omega)]
          by_cases f : p + 1 < q
          · rw [if_pos (by omega)]; rfl
          · omega
        · rw [if_neg e, if_neg (by omega), if_neg (by omega)]; rfl
theorem cs_abs (par : Int → Int) (p j : Int) : ((cs par p j).natAbs : Int) = cov par p j := by
  unfold cs cov
  split <;> split <;> (try split) <;> (try omega)
/-- one coordinate of a part -/
def co (par : Int → Int) (lev : Int → Nat) (n : Nat) (l : Nat) (p : Int) : Int := sI (fun j => if lev j = l then cs par p j else 0) 1 (n - 1)
structure Tree (par : Int → Int) (lev : Int → Nat) (n d : Nat) : Prop where
  lo : ∀ j : Int, 1 ≤ j → j < n → 1 ≤ lev j ∧ lev j ≤ d
  up : ∀ j : Int, 1 ≤ j → j < n → lev j = lev (par j) + 1
theorem Tree.ne {par : Int → Int} {lev : Int → Nat} {n d : Nat} (T : Tree par lev n d) {j : Int} (h1 : 1 ≤ j) (h2 : j < n) : par j ≠ j := fun e => by
  have := T.up j h1 h2
  rw [e] at this
  omega
theorem co_step {par : Int → Int} {lev : Int → Nat} {n d : Nat} (T : Tree par lev n d) (l : Nat) (p : Int) (h : lev (p + 1) ≥ l) (hp : 0 ≤ p) (hpn : p + 1 < n) : co par lev n l (p + 1) = co par lev n l p - (if lev (p + 1) = l then 1 else 0) := by
  unfold co
  have e : sI (fun j => if lev j = l then cs par (p + 1) j else 0) 1 (n - 1) = sI (fun j => (if lev j = l then cs par p j else 0) + (if j = p + 1 then (if lev (p + 1) = l then -1 else 0) else 0)) 1 (n - 1) := by
    refine sI_congr fun j h1 h2 => ?_
    have h2' : j < n := by omega
    by_cases hl : lev j = l
    · have np : par j ≠ p + 1 := fun e => by
        have := T.up j h1 h2'
        rw [e] at this
        omega
      rw [if_pos hl, if_pos hl, cs_step par p j (T.ne h1 h2'), if_neg np]
      by_cases ej : j = p + 1
      · rw [if_pos ej, if_pos ej, ← ej, if_pos hl]; omega
      · rw [if_neg ej, if_neg ej]; omega
    · rw [if_neg hl, if_neg hl]
      by_cases ej : j = p + 1
      · rw [if_pos ej, ← ej, if_neg hl]; rfl
      · rw [if_neg ej]; rfl
  rw [e, sI_plus]
  have one : ∀ (c : Int) (lo : Int) (m : Nat), lo ≤ p + 1 → p + 1 < lo + m → sI (fun j => if j = p + 1 then c else 0) lo m = c := by
    intro c lo m h1 h2
    induction m with
    | zero => omega
    | succ m ih =>
      show sI _ lo m + (if lo + (m : Int) = p + 1 then c else 0) = c
      by_cases e : lo + (m : Int) = p + 1
      · rw [if_pos e]
        have z : sI (fun j => if j = p + 1 then c else 0) lo m = sI (fun _ => 0) lo m := sI_congr fun j h1 h2 => by rw [if_neg (by omega)]
        rw [z, sI_zero]
        omega
      · rw [if_neg e, ih (by omega)]
        omega
  rw [one _ _ _ (by omega) (by omega)]
  by_cases hl : lev (p + 1) = l
  · rw [if_pos hl, if_pos hl]; omega
  · rw [if_neg hl, if_neg hl]; omega
/-- between two parts some coordinate falls -/
theorem co_fall {par : Int → Int} {lev : Int → Nat} {n d : Nat} (T : Tree par lev n d) (p : Nat) : ∀ (k : Nat), p + k + 1 < n → ∃ v : Nat, p < v ∧ v ≤ p + k + 1 ∧ (∀ v' : Nat, p < v' → v' ≤ p + k + 1 → lev v ≤ lev v') ∧
    co par lev n (lev v) ((p + k + 1 : Nat) : Int) < co par lev n (lev v) (p : Int) := by
  -- the least level
  have least : ∀ (k : Nat), ∃ v : Nat, p < v ∧ v ≤ p + k + 1 ∧ ∀ v' : Nat, p < v' → v' ≤ p + k + 1 → lev v ≤ lev v' := by
    intro k
    induction k with
    | zero => exact ⟨p + 1, by omega, by omega, fun v' h1 h2 => by rw [show v' = p + 1 by omega]; exact Nat.le_refl _⟩
    | succ k ih =>
      obtain ⟨v, h1, h2, h3⟩ := ih
      by_cases c : lev ((p + (k + 1) + 1 : Nat) : Int) < lev v
      · refine ⟨p + (k + 1) + 1, by omega, by omega, fun v' a b => ?_⟩
        by_cases e : v' = p + (k + 1) + 1
        · rw [e]; exact Nat.le_refl _
        · have := h3 v' a (by omega); omega
      · refine ⟨v, h1, by omega, fun v' a b => ?_⟩
        by_cases e : v' = p + (k + 1) + 1
        · rw [e]; omega
        · exact h3 v' a (by omega)
  intro k hk
  obtain ⟨v, h1, h2, h3⟩ := least k
  refine ⟨v, h1, h2, h3, ?_⟩
  have walk : ∀ m : Nat, p + m ≤ p + k + 1 → co par lev n (lev v) ((p + m : Nat) : Int) ≤ co par lev n (lev v) (p : Int) ∧ (v ≤ p + m → co par lev n (lev v) ((p + m : Nat) : Int) < co par lev n (lev v) (p : Int)) := by
    intro m
    induction m with
    | zero => intro _; exact ⟨Int.le_refl _, fun z => by omega⟩
    | succ m ih =>
      intro hm
      obtain ⟨i1, i2⟩ := ih (by omega)
      have e : ((p + (m + 1) : Nat) : Int) = ((p + m : Nat) : Int) + 1 := by omega
      have lv := h3 (p + (m + 1)) (by omega) (by omega)
      have st := co_step T (lev v) ((p + m : Nat) : Int) (by rw [← e]; exact lv) (by omega) (by omega)
      rw [e]
      refine ⟨?_, fun z => ?_⟩
      · rw [st]; split <;> omega
      · by_cases ev : v = p + (m + 1)
        · rw [st, ← e, ← ev, if_pos rfl]
          omega
        · have := i2 (by omega)
          rw [st]; split <;> omega
  exact (walk (k + 1) (by omega)).2 (by omega)
def vec (par : Int → Int) (lev : Int → Nat) (n d : Nat) (p : Nat) : List Int := (List.range d).map fun l => co par lev n (l + 1) p
theorem nrm_append : ∀ (a b : List Int), nrm (a ++ b) = nrm a + nrm b
  | [], b => by simp [nrm]
  | x :: a, b => by
    show x.natAbs + nrm (a ++ b) = x.natAbs + nrm a + nrm b
    rw [nrm_append a b]; omega
theorem vec_nrm {par : Int → Int} {lev : Int → Nat} {n : Nat} (p : Nat) : ∀ d : Nat, ((nrm (vec par lev n d p) : Nat) : Int) ≤ sI (fun j => if 1 ≤ lev j ∧ lev j ≤ d then cov par p j else 0) 1 (n - 1)
  | 0 => by
    have : sI (fun j => if 1 ≤ lev j ∧ lev j ≤ 0 then cov par p j else 0) 1 (n - 1) = sI (fun _ => 0) 1 (n - 1) := sI_congr fun j _ _ => by rw [if_neg (by omega)]
    rw [this, sI_zero]
    exact Int.le_refl _
  | d + 1 => by
    have ih := vec_nrm (par := par) (lev := lev) (n := n) p d
    have e : vec par lev n (d + 1) p = vec par lev n d p ++ [co par lev n (d + 1) p] := by unfold vec; rw [List.range_succ, List.map_append]; rfl
    have h1 := sI_abs (fun j => if lev j = d + 1 then cs par p j else 0) 1 (n - 1)
    have h2 : sI (fun j => (((if lev j = d + 1 then cs par p j else 0).natAbs : Nat) : Int)) 1 (n - 1) = sI (fun j => if lev j = d + 1 then cov par p j else 0) 1 (n - 1) := sI_congr fun j _ _ => by
      split
      · exact cs_abs par p j
      · rfl
    have h3 : sI (fun j => if 1 ≤ lev j ∧ lev j ≤ d + 1 then cov par p j else 0) 1 (n - 1) = sI (fun j => (if 1 ≤ lev j ∧ lev j ≤ d then cov par p j else 0) + (if lev j = d + 1 then cov par p j else 0)) 1 (n - 1) := sI_congr fun j _ _ => by
      by_cases a : lev j = d + 1
      · rw [if_pos (by omega), if_neg (by omega), if_pos a]; omega
      · by_cases b : 1 ≤ lev j ∧ lev j ≤ d
        · rw [if_pos (by omega), if_pos b, if_neg a]; omega
        · rw [if_neg (by omega), if_neg b, if_neg a]; rfl
    rw [e, nrm_append, h3, sI_plus, ← h2]
    have h4 : nrm [co par lev n (d + 1) p] = (co par lev n (d + 1) p).natAbs := by simp [nrm]
    rw [h4]
    unfold co
    unfold co at *
    omega
/-- chains to d, loads to r: at most D d r parts -/
theorem most {par : Int → Int} {lev : Int → Nat} {n d r : Nat} (T : Tree par lev n d) (h : ∀ p : Nat, p < n → sI (cov par p) 1 (n - 1) ≤ r) : n ≤ D d r := by
  have key := ball d r ((List.range n).map (vec par lev n d)) (nd_map (fun x hx y hy e => ?_) List.nodup_range) (fun v hv => ?_)
  · rwa [List.length_map, List.length_range] at key
  · rw [List.mem_range] at hx hy
    have no : ∀ x y : Nat, x < y → y < n → vec par lev n d x = vec par lev n d y → False := fun x y hxy hy e => by
      obtain ⟨k, rfl⟩ : ∃ k, y = x + k + 1 := ⟨y - x - 1, by omega⟩
      obtain ⟨v, h1, h2, h3, h4⟩ := co_fall T x k hy
      have lv := T.lo v (by omega) (by omega)
      have e1 := congrArg (fun l => l[lev v - 1]?) e
      unfold vec at e1
      rw [List.getElem?_map, List.getElem?_map, List.getElem?_range (by omega)] at e1
      have e2 : co par lev n (lev v - 1 + 1) x = co par lev n (lev v - 1 + 1) ((x + k + 1 : Nat) : Int) := Option.some.inj e1
      rw [show lev v - 1 + 1 = lev v by omega] at e2
      omega
    rcases Nat.lt_trichotomy x y with c | c | c
    · exact (no x y c hy e).elim
    · exact c
    · exact (no y x c hx e.symm).elim
  · obtain ⟨p, hp, rfl⟩ := List.mem_map.mp hv
    rw [List.mem_range] at hp
    refine ⟨by unfold vec; rw [List.length_map, List.length_range], ?_⟩
    have h1 := vec_nrm (par := par) (lev := lev) (n := n) p d
    have h2 : sI (fun j => if 1 ≤ lev j ∧ lev j ≤ d then cov par p j else 0) 1 (n - 1) = sI (cov par p) 1 (n - 1) := sI_congr fun j a b => by rw [if_pos (T.lo j a (by omega))]
    have h3 := h p hp
    omega
end Lay
set_option maxHeartbeats 1000000
/-! MLay2: the built layout: as many parts as D d r, chains to d, loads to r. -/
namespace Lay
open Del
def hh (d r : Nat) : Nat := (D d r - 1) / 2
theorem D_odd : ∀ (d r : Nat), D d r % 2 = 1
  | 0, r => by rw [D_z]
  | d + 1, 0 => by rw [D_0]
  | d + 1, r + 1 => by rw [D_s]; have := D_odd d (r + 1); have := D_odd (d + 1) r; have := D_odd d r; omega
theorem hh_eq (d r : Nat) : D d r = 2 * hh d r + 1 := by have := D_odd d r; unfold hh; omega
theorem hh_z (r : Nat) : hh 0 r = 0 := by unfold hh; rw [D_z]
theorem hh_0 (d : Nat) : hh d 0 = 0 := by unfold hh; rw [D_0]
theorem hh_s (d r : Nat) : hh (d + 1) (r + 1) = hh d (r + 1) + hh (d + 1) r + hh d r + 1 := by
  have a := hh_eq (d + 1) (r + 1); have b := hh_eq d (r + 1); have c := hh_eq (d + 1) r; have e := hh_eq d r
  rw [D_s] at a
  omega
/-! m joints in a row from a root: the one that is hung on it, the joints this side of it -/
def sAt (d r m : Nat) : Nat := m - 1 - min (m - 1) (hh (d - 1) r)
def sNr (d r m : Nat) : Nat := min (sAt d r m) (hh d (r - 1))
theorem split {d r m : Nat} (hm : 1 ≤ m) (h : m ≤ hh d r) : 1 ≤ d ∧ 1 ≤ r ∧ sAt d r m < m ∧ sNr d r m ≤ sAt d r m ∧ sNr d r m ≤ hh d (r - 1) ∧ sAt d r m - sNr d r m ≤ hh (d - 1) (r - 1) ∧ m - 1 - sAt d r m ≤ hh (d - 1) r := by
  cases d with
  | zero => rw [hh_z] at h; omega
  | succ d =>
    cases r with
    | zero => rw [hh_0] at h; omega
    | succ r =>
      rw [hh_s] at h
      unfold sNr sAt
      simp only [Nat.add_sub_cancel]
      omega
/-- j is one of m joints in a row from the root, towards s -/
def In (root s : Int) (m : Nat) (j : Int) : Prop := (s = 1 ∧ root + 1 ≤ j ∧ j ≤ root + m) ∨ (s = -1 ∧ root - m ≤ j ∧ j ≤ root - 1)
def Fits (par : Int → Int) (lev : Int → Nat) : Nat → Nat → Nat → Int → Int → Nat → Nat → Prop
  | 0, _, _, _, _, m, _ => m = 0
  | f + 1, d, r, root, s, m, lv => m = 0 ∨ (par (root + s * (sAt d r m + 1 : Nat)) = root ∧ lev (root + s * (sAt d r m + 1 : Nat)) = lv + 1 ∧ Fits par lev f d (r - 1) root s (sNr d r m) lv ∧
      Fits par lev f (d - 1) (r - 1) (root + s * (sAt d r m + 1 : Nat)) (-s) (sAt d r m - sNr d r m) (lv + 1) ∧ Fits par lev f (d - 1) r (root + s * (sAt d r m + 1 : Nat)) s (m - 1 - sAt d r m) (lv + 1))
theorem sub_in {root s : Int} {m a n : Nat} (hs : s = 1 ∨ s = -1) (ha : a < m) (hn : n ≤ a) : In root s m (root + s * (a + 1 : Nat)) ∧ (∀ j, In root s n j → In root s m j ∧ j ≠ root + s * (a + 1 : Nat) ∧ ¬ In (root + s * (a + 1 : Nat)) (-s) (a - n) j ∧ ¬ In (root + s * (a + 1 : Nat)) s (m - 1 - a) j) ∧
    (∀ j, In (root + s * (a + 1 : Nat)) (-s) (a - n) j → In root s m j ∧ j ≠ root + s * (a + 1 : Nat) ∧ ¬ In (root + s * (a + 1 : Nat)) s (m - 1 - a) j) ∧ (∀ j, In (root + s * (a + 1 : Nat)) s (m - 1 - a) j → In root s m j ∧ j ≠ root + s * (a + 1 : Nat)) := by
  rcases hs with rfl | rfl
  · rw [show root + 1 * ((a + 1 : Nat) : Int) = root + a + 1 by omega]
    unfold In
    refine ⟨by omega, fun j h => ?_, fun j h => ?_, fun j h => ?_⟩ <;> refine ⟨by omega, ?_⟩
    · refine ⟨by omega, by omega, by omega⟩
    · refine ⟨by omega, by omega⟩
    · omega
  · rw [show root + -1 * ((a + 1 : Nat) : Int) = root - a - 1 by omega]
    unfold In
    refine ⟨by omega, fun j h => ?_, fun j h => ?_, fun j h => ?_⟩ <;> refine ⟨by omega, ?_⟩
    · refine ⟨by omega, by omega, by omega⟩
    · refine ⟨by omega, by omega⟩
    · omega
theorem neg_s {s : Int} (hs : s = 1 ∨ s = -1) : -s = 1 ∨ -s = -1 := by omega
theorem fits_congr {par par' : Int → Int} {lev lev' : Int → Nat} : ∀ (f d r : Nat) (root s : Int) (m lv : Nat), (s = 1 ∨ s = -1) → (∀ j, In root s m j → par' j = par j ∧ lev' j = lev j) → Fits par lev f d r root s m lv → Fits par' lev' f d r root s m lv
  | 0, _, _, _, _, _, _, _, _, h => h
  | f + 1, d, r, root, s, m, lv, hs, e, h => by
    rcases h with h | ⟨h1, h2, h3, h4, h5⟩
    · exact .inl h
    · by_cases m0 : m = 0
      · exact .inl m0
      have ha : sAt d r m < m := by unfold sAt; omega
      have hn : sNr d r m ≤ sAt d r m := by unfold sNr; omega
      obtain ⟨i0, i1, i2, i3⟩ := sub_in (root := root) hs ha hn
      refine .inr ⟨(e _ i0).1.trans h1, (e _ i0).2.trans h2, fits_congr f _ _ _ _ _ _ hs (fun j hj => e j (i1 j hj).1) h3, fits_congr f _ _ _ _ _ _ (neg_s hs) (fun j hj => e j (i2 j hj).1) h4, fits_congr f _ _ _ _ _ _ hs (fun j hj => e j (i3 j hj).1) h5⟩
open Classical in
theorem fits_ex : ∀ (f d r : Nat) (root s : Int) (m lv : Nat), (s = 1 ∨ s = -1) → m ≤ f → ∃ (par : Int → Int) (lev : Int → Nat), Fits par lev f d r root s m lv
  | 0, _, _, _, _, m, _, _, h => ⟨fun _ => 0, fun _ => 0, by show m = 0; omega⟩
  | f + 1, d, r, root, s, m, lv, hs, h => by
    by_cases m0 : m = 0
    · exact ⟨fun _ => 0, fun _ => 0, .inl m0⟩
    have ha : sAt d r m < m := by unfold sAt; omega
    have hn : sNr d r m ≤ sAt d r m := by unfold sNr; omega
    obtain ⟨i0, i1, i2, i3⟩ := sub_in (root := root) hs ha hn
    obtain ⟨pA, lA, A⟩ := fits_ex f d (r - 1) root s (sNr d r m) lv hs (by omega)
    obtain ⟨pB, lB, B⟩ := fits_ex f (d - 1) (r - 1) (root + s * (sAt d r m + 1 : Nat)) (-s) (sAt d r m - sNr d r m) (lv + 1) (neg_s hs) (by omega)
    obtain ⟨pC, lC, C⟩ := fits_ex f (d - 1) r (root + s * (sAt d r m + 1 : Nat)) s (m - 1 - sAt d r m) (lv + 1) hs (by omega)
    generalize ht : root + s * (sAt d r m + 1 : Nat) = top at *
    refine ⟨fun j => if j = top then root else if In top s (m - 1 - sAt d r m) j then pC j else if In top (-s) (sAt d r m - sNr d r m) j then pB j else pA j,
      fun j => if j = top then lv + 1 else if In top s (m - 1 - sAt d r m) j then lC j else if In top (-s) (sAt d r m - sNr d r m) j then lB j else lA j, .inr ?_⟩
    rw [ht]
    refine ⟨if_pos rfl, if_pos rfl, fits_congr f _ _ _ _ _ _ hs (fun j hj => ?_) A, fits_congr f _ _ _ _ _ _ (neg_s hs) (fun j hj => ?_) B, fits_congr f _ _ _ _ _ _ hs (fun j hj => ?_) C⟩
    · obtain ⟨_, a, b, c⟩ := i1 j hj
      exact ⟨by rw [if_neg a, if_neg c, if_neg b], by rw [if_neg a, if_neg c, if_neg b]⟩
    · obtain ⟨_, a, c⟩ := i2 j hj
      exact ⟨by rw [if_neg a, if_neg c, if_pos hj], by rw [if_neg a, if_neg c, if_pos hj]⟩
    · obtain ⟨_, a⟩ := i3 j hj
      exact ⟨by rw [if_neg a, if_pos hj], by rw [if_neg a, if_pos hj]⟩
theorem fits_tree {par : Int → Int} {lev : Int → Nat} : ∀ (f d r : Nat) (root s : Int) (m lv : Nat), (s = 1 ∨ s = -1) → m ≤ hh d r → Fits par lev f d r root s m lv → ∀ j, In root s m j →
    lv + 1 ≤ lev j ∧ lev j ≤ lv + d ∧ ((par j = root ∧ lev j = lv + 1) ∨ (In root s m (par j) ∧ lev j = lev (par j) + 1))
  | 0, _, _, _, _, m, _, _, _, h => fun j hj => by
    have h : m = 0 := h
    unfold In at hj
    omega
  | f + 1, d, r, root, s, m, lv, hs, hz, h => fun j hj => by
    by_cases m0 : m = 0
    · unfold In at hj
      omega
    rcases h with h | ⟨h1, h2, h3, h4, h5⟩
    · exact absurd h m0
    obtain ⟨d1, r1, ha, hn, z1, z2, z3⟩ := split (by omega) hz
    obtain ⟨i0, i1, i2, i3⟩ := sub_in (root := root) hs ha hn
    have A := fits_tree f _ _ _ _ _ _ hs z1 h3 j
    have B := fits_tree f _ _ _ _ _ _ (neg_s hs) z2 h4 j
    have C := fits_tree f _ _ _ _ _ _ hs z3 h5 j
    by_cases ct : j = root + s * (sAt d r m + 1 : Nat)
    · subst ct
      exact ⟨by omega, by omega, .inl ⟨h1, h2⟩⟩
    by_cases cA : In root s (sNr d r m) j
    · obtain ⟨a1, a2, a3⟩ := A cA
      refine ⟨a1, a2, a3.imp id fun ⟨a4, a5⟩ => ⟨(i1 _ a4).1, a5⟩⟩
    by_cases cB : In (root + s * (sAt d r m + 1 : Nat)) (-s) (sAt d r m - sNr d r m) j
    · obtain ⟨a1, a2, a3⟩ := B cB
      refine ⟨by omega, by omega, .inr ?_⟩
      rcases a3 with ⟨a4, a5⟩ | ⟨a4, a5⟩
      · rw [a4]; exact ⟨i0, by omega⟩
      · exact ⟨(i2 _ a4).1, a5⟩
    have cC : In (root + s * (sAt d r m + 1 : Nat)) s (m - 1 - sAt d r m) j := by
      generalize sAt d r m = a at *
      generalize sNr d r m = b at *
      rcases hs with rfl | rfl
      · rw [show root + 1 * ((a + 1 : Nat) : Int) = root + a + 1 by omega] at ct cB ⊢
        unfold In at *
        omega
      · rw [show root + -1 * ((a + 1 : Nat) : Int) = root - a - 1 by omega] at ct cB ⊢
        unfold In at *
        omega
    obtain ⟨a1, a2, a3⟩ := C cC
    refine ⟨by omega, by omega, .inr ?_⟩
    rcases a3 with ⟨a4, a5⟩ | ⟨a4, a5⟩
    · rw [a4]; exact ⟨i0, by omega⟩
    · exact ⟨(i3 _ a4).1, a5⟩
theorem fits_load {par : Int → Int} {lev : Int → Nat} (p : Int) : ∀ (f d r : Nat) (root s : Int) (m lv : Nat), m ≤ hh d r → Fits par lev f d r root s m lv →
    (s = 1 → sI (cov par p) (root + 1) m ≤ if root ≤ p ∧ p < root + m then r else 0) ∧ (s = -1 → sI (cov par p) (root - m) m ≤ if root - m ≤ p ∧ p < root then r else 0)
  | 0, _, r, root, _, m, _, _, h => by
    have h : m = 0 := h
    subst h
    refine ⟨fun _ => ?_, fun _ => ?_⟩ <;> (show (0 : Int) ≤ _; split <;> omega)
  | f + 1, d, r, root, s, m, lv, hz, h => by
    by_cases m0 : m = 0
    · subst m0
      refine ⟨fun _ => ?_, fun _ => ?_⟩ <;> (show (0 : Int) ≤ _; split <;> omega)
    rcases h with h | ⟨h1, h2, h3, h4, h5⟩
    · exact absurd h m0
    obtain ⟨d1, r1, ha, hn, z1, z2, z3⟩ := split (by omega) hz
    have A := fits_load p f _ _ _ _ _ _ z1 h3
    have B := fits_load p f _ _ _ _ _ _ z2 h4
    have C := fits_load p f _ _ _ _ _ _ z3 h5
    generalize sAt d r m = a at *
    generalize sNr d r m = b at *
    refine ⟨fun e => ?_, fun e => ?_⟩
    · subst e
      have et : root + 1 * ((a + 1 : Nat) : Int) = root + a + 1 := by omega
      rw [et] at h1 B C
      have A := A.1 rfl
      have B := B.2 rfl
      have C := C.1 rfl
      have em : m = b + ((a - b) + (1 + (m - 1 - a))) := by omega
      have l1 : sI (cov par p) (root + 1) m = sI (cov par p) (root + 1) b + (sI (cov par p) (root + 1 + b) (a - b) + (sI (cov par p) (root + 1 + b + ((a - b : Nat) : Int)) 1 + sI (cov par p) (root + 1 + b + ((a - b : Nat) : Int) + (1 : Nat)) (m - 1 - a))) := by
        conv => lhs; rw [em]
        rw [sI_add, sI_add, sI_add]
      have x1 : root + 1 + (b : Int) = root + a + 1 - ((a - b : Nat) : Int) := by omega
      have x2 : root + 1 + (b : Int) + ((a - b : Nat) : Int) = root + a + 1 := by omega
      rw [l1, x2, show root + (a : Int) + 1 + ((1 : Nat) : Int) = root + a + 1 + 1 by omega, x1]
      have lt : sI (cov par p) (root + a + 1) 1 = cov par p (root + a + 1) := by show 0 + cov par p (root + a + 1 + ((0 : Nat) : Int)) = _; rw [Int.zero_add]; congr 1; omega
      rw [lt]
      have ht : cov par p (root + a + 1) = if root ≤ p ∧ p < root + a + 1 then 1 else 0 := by
        unfold cov
        rw [h1]
        by_cases c : root ≤ p ∧ p < root + a + 1
        · rw [if_pos (.inl c), if_pos c]
        · rw [if_neg (by omega), if_neg c]
      rw [ht]
      generalize sI (cov par p) (root + 1) b = X at *
      generalize sI (cov par p) (root + a + 1 - ((a - b : Nat) : Int)) (a - b) = Y at *
      generalize sI (cov par p) (root + a + 1 + 1) (m - 1 - a) = Z at *
      by_cases c1 : root ≤ p ∧ p < root + b
      · rw [if_pos c1] at A; rw [if_neg (by omega)] at B C; rw [if_pos (by omega), if_pos (by omega)]; omega
      · rw [if_neg c1] at A
        by_cases c2 : root + a + 1 - ((a - b : Nat) : Int) ≤ p ∧ p < root + a + 1
        · rw [if_pos c2] at B; rw [if_neg (by omega)] at C; rw [if_pos (by omega), if_pos (by omega)]; omega
        · rw [if_neg c2] at B
          by_cases c3 : root + a + 1 ≤ p ∧ p < root + a + 1 + ((m - 1 - a : Nat) : Int)
          · rw [if_pos c3] at C; rw [if_neg (by omega), if_pos (by omega)]; omega
          · rw [if_neg c3] at C
            by_cases c4 : root ≤ p ∧ p < root + a + 1
            · rw [if_pos c4, if_pos (by omega)]; omega
            · rw [if_neg c4]; split <;> omega
    · subst e
      have et : root + -1 * ((a + 1 : Nat) : Int) = root - a - 1 := by omega
      rw [et] at h1 B C
      have A := A.2 rfl
      have B := B.1 rfl
      have C := C.2 rfl
      have em : m = (m - 1 - a) + (1 + ((a - b) + b)) := by omega
      have l1 : sI (cov par p) (root - m) m = sI (cov par p) (root - m) (m - 1 - a) + (sI (cov par p) (root - m + ((m - 1 - a : Nat) : Int)) 1 + (sI (cov par p) (root - m + ((m - 1 - a : Nat) : Int) + (1 : Nat)) (a - b) + sI (cov par p) (root - m + ((m - 1 - a : Nat) : Int) + (1 : Nat) + ((a - b : Nat) : Int)) b)) := by
        conv => lhs; arg 3; rw [em]
        rw [sI_add, sI_add, sI_add]
      have x1 : root - (m : Int) = root - a - 1 - ((m - 1 - a : Nat) : Int) := by omega
      have x2 : root - (m : Int) + ((m - 1 - a : Nat) : Int) = root - a - 1 := by omega
      have x3 : root - (a : Int) - 1 + ((1 : Nat) : Int) = root - a - 1 + 1 := by omega
      have x4 : root - (a : Int) - 1 + 1 + ((a - b : Nat) : Int) = root - b := by omega
      rw [l1, x2, x3, x4]
      rw [show sI (cov par p) (root - m) (m - 1 - a) = sI (cov par p) (root - a - 1 - ((m - 1 - a : Nat) : Int)) (m - 1 - a) by rw [← x1]]
      have lt : sI (cov par p) (root - a - 1) 1 = cov par p (root - a - 1) := by show 0 + cov par p (root - a - 1 + ((0 : Nat) : Int)) = _; rw [Int.zero_add]; congr 1; omega
      rw [lt]
      have ht : cov par p (root - a - 1) = if root - a - 1 ≤ p ∧ p < root then 1 else 0 := by
        unfold cov
        rw [h1]
        by_cases c : root - a - 1 ≤ p ∧ p < root
        · rw [if_pos (.inr c), if_pos c]
        · rw [if_neg (by omega), if_neg c]
      rw [ht]
      generalize sI (cov par p) (root - b) b = X at *
      generalize sI (cov par p) (root - a - 1 + 1) (a - b) = Y at *
      generalize sI (cov par p) (root - a - 1 - ((m - 1 - a : Nat) : Int)) (m - 1 - a) = Z at *
      by_cases c1 : root - b ≤ p ∧ p < root
      · rw [if_pos c1] at A; rw [if_neg (by omega)] at B C; rw [if_pos (by omega), if_pos (by omega)]; omega
      · rw [if_neg c1] at A
        by_cases c2 : root - a - 1 ≤ p ∧ p < root - a - 1 + ((a - b : Nat) : Int)
        · rw [if_pos c2] at B; rw [if_neg (by omega)] at C; rw [if_pos (by omega), if_pos (by omega)]; omega
        · rw [if_neg c2] at B
          by_cases c3 : root - a - 1 - ((m - 1 - a : Nat) : Int) ≤ p ∧ p < root - a - 1
          · rw [if_pos c3] at C; rw [if_neg (by omega), if_pos (by omega)]; omega
          · rw [if_neg c3] at C
            by_cases c4 : root - a - 1 ≤ p ∧ p < root
            · rw [if_pos c4, if_pos (by omega)]; omega
            · rw [if_neg c4]; split <;> omega
/-- the whole layout -/
structure Built (par : Int → Int) (lev : Int → Nat) (n d r : Nat) : Prop where
  l0 : lev 0 = 0
  ln : lev n = 0
  a : Fits par lev n d r 0 1 (min (n - 1) (hh d r)) 0
  b : Fits par lev n d r n (-1) (n - 1 - min (n - 1) (hh d r)) 0
theorem top_sz {n d r : Nat} (h : n ≤ D d r) : min (n - 1) (hh d r) ≤ hh d r ∧ n - 1 - min (n - 1) (hh d r) ≤ hh d r := by
  have := hh_eq d r
  omega
theorem built_ex (n d r : Nat) (hn : 1 ≤ n) : ∃ par lev, Built par lev n d r := by
  obtain ⟨pA, lA, A⟩ := fits_ex n d r 0 1 (min (n - 1) (hh d r)) 0 (.inl rfl) (by omega)
  obtain ⟨pB, lB, B⟩ := fits_ex n d r n (-1) (n - 1 - min (n - 1) (hh d r)) 0 (.inr rfl) (by omega)
  refine ⟨fun j => if j ≤ min (n - 1) (hh d r) then pA j else pB j, fun j => if j = 0 ∨ j = n then 0 else if j ≤ min (n - 1) (hh d r) then lA j else lB j, if_pos (.inl rfl), if_pos (.inr rfl), fits_congr _ _ _ _ _ _ _ (.inl rfl) (fun j hj => ?_) A, fits_congr _ _ _ _ _ _ _ (.inr rfl) (fun j hj => ?_) B⟩
  · unfold In at hj
    exact ⟨if_pos (by omega), by rw [if_neg (by omega), if_pos (by omega)]⟩
  · unfold In at hj
    exact ⟨if_neg (by omega), by rw [if_neg (by omega), if_neg (by omega)]⟩
theorem Built.step {par : Int → Int} {lev : Int → Nat} {n d r : Nat} (B : Built par lev n d r) (h : n ≤ D d r) (j : Int) (h1 : 1 ≤ j) (h2 : j < n) : 1 ≤ lev j ∧ lev j ≤ d ∧ lev j = lev (par j) + 1 ∧ 0 ≤ par j ∧ par j ≤ n := by
  obtain ⟨z1, z2⟩ := top_sz h
  by_cases c : j ≤ min (n - 1) (hh d r)
  · obtain ⟨a1, a2, a3⟩ := fits_tree _ _ _ _ _ _ _ (.inl rfl) z1 B.a j (by unfold In; omega)
    refine ⟨by omega, by omega, ?_⟩
    rcases a3 with ⟨a3, a4⟩ | ⟨a3, a4⟩
    · rw [a3, B.l0]; omega
    · unfold In at a3; omega
  · obtain ⟨a1, a2, a3⟩ := fits_tree _ _ _ _ _ _ _ (.inr rfl) z2 B.b j (by unfold In; omega)
    refine ⟨by omega, by omega, ?_⟩
    rcases a3 with ⟨a3, a4⟩ | ⟨a3, a4⟩
    · rw [a3, B.ln]; omega
    · unfold In at a3; omega
theorem Built.tree {par : Int → Int} {lev : Int → Nat} {n d r : Nat} (B : Built par lev n d r) (h : n ≤ D d r) : Tree par lev n d :=
  ⟨fun j h1 h2 => ⟨(B.step h j h1 h2).1, (B.step h j h1 h2).2.1⟩, fun j h1 h2 => (B.step h j h1 h2).2.2.1⟩
def load (par : Int → Int) (n : Nat) (p : Int) : Int := sI (cov par p) 1 (n - 1)
theorem Built.le {par : Int → Int} {lev : Int → Nat} {n d r : Nat} (B : Built par lev n d r) (h : n ≤ D d r) (hn : 1 ≤ n) (p : Int) : load par n p ≤ r := by
  obtain ⟨z1, z2⟩ := top_sz h
  have a := (fits_load p _ _ _ _ _ _ _ z1 B.a).1 rfl
  have b := (fits_load p _ _ _ _ _ _ _ z2 B.b).2 rfl
  unfold load
  have e : n - 1 = min (n - 1) (hh d r) + (n - 1 - min (n - 1) (hh d r)) := by omega
  have l : sI (cov par p) 1 (n - 1) = sI (cov par p) 1 (min (n - 1) (hh d r)) + sI (cov par p) (1 + (min (n - 1) (hh d r) : Nat)) (n - 1 - min (n - 1) (hh d r)) := by
    conv => lhs; rw [e]
    rw [sI_add]
  rw [l]
  rw [show (1 : Int) + ((min (n - 1) (hh d r) : Nat) : Int) = (n : Int) - ((n - 1 - min (n - 1) (hh d r) : Nat) : Int) by omega]
  rw [Int.zero_add] at a
  generalize min (n - 1) (hh d r) = x at *
  generalize sI (cov par p) 1 x = X at *
  generalize sI (cov par p) ((n : Int) - ((n - 1 - x : Nat) : Int)) (n - 1 - x) = Y at *
  by_cases c1 : 0 ≤ p ∧ p < 0 + (x : Int)
  · rw [if_pos (by omega)] at a; rw [if_neg (by omega)] at b; omega
  · rw [if_neg (by omega)] at a
    split at b <;> omega
/-- some part bears r -/
theorem Built.ge {par : Int → Int} {lev : Int → Nat} {n d r : Nat} (B : Built par lev n d r) (h : Least n d r) (hn : 1 ≤ n) : ∃ p : Nat, p < n ∧ load par n p = r := by
  have nn : ∀ p, 0 ≤ load par n p := fun p => by
    have : sI (fun _ => 0) 1 (n - 1) ≤ load par n p := sI_le fun j _ _ => by unfold cov; split <;> omega
    rw [sI_zero] at this
    exact this
  cases r with
  | zero => exact ⟨0, by omega, by have := B.le h.1 hn ((0 : Nat) : Int); have := nn ((0 : Nat) : Int); omega⟩
  | succ r =>
    refine Classical.byContradiction fun z => ?_
    have h1 := most (r := r) (B.tree h.1) (fun p hp => by
      have a := B.le h.1 hn p
      have b : load par n p ≠ (r + 1 : Nat) := fun e => z ⟨p, hp, e⟩
      show load par n p ≤ r
      omega)
    have h2 := h.2 r (by omega)
    omega
end Lay
set_option maxRecDepth 100000
set_option maxHeartbeats 2000000
/-! MLayH: the tasks of a layout on the heap, and what is set. -/
namespace L3
open PySem PySem.Spec PyProof.Rows L2 He
/-- m joints in a row from a root -/
def js (root s : Int) (m : Nat) : List V := (List.range m).map fun (k : Nat) => V.int (root + s * ((k : Nat) + 1 : Int))
theorem js_len (root s : Int) (m : Nat) : (js root s m).length = m := by unfold js; rw [List.length_map, List.length_range]
theorem js_at {root s : Int} {m k : Nat} (h : k < m) : (js root s m)[k]? = some (V.int (root + s * ((k : Nat) + 1 : Int))) := by
  unfold js
  rw [List.getElem?_map, List.getElem?_range h]
  rfl
theorem js_take {root s : Int} {m k : Nat} (h : k ≤ m) : (js root s m).take k = js root s k := by
  apply List.ext_getElem?
  intro i
  rw [List.getElem?_take]
  split
  · rw [js_at (by omega), js_at (by omega)]
  · rw [List.getElem?_eq_none (by rw [js_len]; omega)]
theorem js_drop {root s : Int} {m k : Nat} (h : k < m) : (js root s m).drop (k + 1) = js (root + s * (k + 1 : Nat)) s (m - 1 - k) := by
  apply List.ext_getElem?
  intro i
  rw [List.getElem?_drop]
  by_cases c : i < m - 1 - k
  · rw [js_at (by omega), js_at c, Int.add_assoc, ← Int.mul_add, show ((k + 1 + i : Nat) : Int) + 1 = ((k + 1 : Nat) : Int) + ((i : Int) + 1) by omega]
  · rw [List.getElem?_eq_none (by rw [js_len]; omega), List.getElem?_eq_none (by rw [js_len]; omega)]
theorem js_rev {root s : Int} {m a b : Nat} (ha : a < m) (hb : b ≤ a) : (((js root s m).drop b).take (a - b)).reverse = js (root + s * (a + 1 : Nat)) (-s) (a - b) := by
  apply List.ext_getElem?
  intro i
  have hl : (((js root s m).drop b).take (a - b)).length = a - b := by rw [List.length_take, List.length_drop, js_len]; omega
  by_cases c : i < a - b
  · rw [List.getElem?_reverse (by omega), hl, List.getElem?_take, if_pos (by omega), List.getElem?_drop, js_at (by omega), js_at c, Int.neg_mul, ← Int.sub_eq_add_neg, Int.add_sub_assoc, ← Int.mul_sub]
    congr 2
    congr 2
    omega
  · rw [List.getElem?_eq_none (by rw [List.length_reverse]; omega), List.getElem?_eq_none (by rw [js_len]; omega)]
/-! ### tasks -/
structure Tk where
  root : Int
  s : Int
  d : Nat
  r : Nat
  m : Nat
  lv : Nat
  f : Nat
structure TkOk (par : Int → Int) (lev : Int → Nat) (n d r : Nat) (t : Tk) : Prop where
  hs : t.s = 1 ∨ t.s = -1
  sz : t.m ≤ Lay.hh t.d t.r
  hd : t.d ≤ d
  hr : t.r ≤ r
  fits : Lay.Fits par lev t.f t.d t.r t.root t.s t.m t.lv
  rng : ∀ j, Lay.In t.root t.s t.m j → 1 ≤ j ∧ j < n
  rt : 0 ≤ t.root ∧ t.root ≤ n
def Tk.at_ (t : Tk) : Nat := Lay.sAt t.d t.r t.m
def Tk.nr (t : Tk) : Nat := Lay.sNr t.d t.r t.m
def Tk.top (t : Tk) : Int := t.root + t.s * (t.at_ + 1 : Nat)
def Tk.tA (t : Tk) : Tk := ⟨t.root, t.s, t.d, t.r - 1, t.nr, t.lv, t.f - 1⟩
def Tk.tB (t : Tk) : Tk := ⟨t.top, -t.s, t.d - 1, t.r - 1, t.at_ - t.nr, t.lv + 1, t.f - 1⟩
def Tk.tC (t : Tk) : Tk := ⟨t.top, t.s, t.d - 1, t.r, t.m - 1 - t.at_, t.lv + 1, t.f - 1⟩
structure TkStep (par : Int → Int) (lev : Int → Nat) (n d r : Nat) (t : Tk) : Prop where
  d1 : 1 ≤ t.d
  r1 : 1 ≤ t.r
  ha : t.at_ < t.m
  hn : t.nr ≤ t.at_
  a : TkOk par lev n d r t.tA
  b : TkOk par lev n d r t.tB
  c : TkOk par lev n d r t.tC
  tp : par t.top = t.root
  t1 : 1 ≤ t.top ∧ t.top < n
  cover : ∀ j, Lay.In t.root t.s t.m j → j = t.top ∨ Lay.In t.tA.root t.tA.s t.tA.m j ∨ Lay.In t.tB.root t.tB.s t.tB.m j ∨ Lay.In t.tC.root t.tC.s t.tC.m j
theorem TkOk.step {par : Int → Int} {lev : Int → Nat} {n d r : Nat} {t : Tk} (h : TkOk par lev n d r t) (hm : 1 ≤ t.m) : TkStep par lev n d r t := by
  obtain ⟨root, s, td, tr, m, lv, f⟩ := t
  obtain ⟨hs, sz, hd, hr, fits, rng, rt⟩ := h
  dsimp only at *
  obtain ⟨d1, r1, ha, hn, z1, z2, z3⟩ := Lay.split hm sz
  obtain ⟨i0, i1, i2, i3⟩ := Lay.sub_in (root := root) hs ha hn
  cases f with
  | zero => have e : m = 0 := fits; omega
  | succ f =>
    rcases fits with e | ⟨h1, h2, h3, h4, h5⟩
    · omega
    have tr1 := rng _ i0
    refine ⟨d1, r1, ha, hn, ⟨hs, z1, hd, by show tr - 1 ≤ r; omega, h3, fun j hj => rng j (i1 j hj).1, rt⟩, ⟨Lay.neg_s hs, z2, by show td - 1 ≤ d; omega, by show tr - 1 ≤ r; omega, h4, fun j hj => rng j (i2 j hj).1, ?_⟩, ⟨hs, z3, by show td - 1 ≤ d; omega, hr, h5, fun j hj => rng j (i3 j hj).1, ?_⟩, h1, tr1, fun j hj => ?_⟩
    · exact ⟨Int.le_trans (by decide) tr1.1, Int.le_of_lt tr1.2⟩
    · exact ⟨Int.le_trans (by decide) tr1.1, Int.le_of_lt tr1.2⟩
    · show j = root + s * (Lay.sAt td tr m + 1 : Nat) ∨ Lay.In root s (Lay.sNr td tr m) j ∨ Lay.In (root + s * (Lay.sAt td tr m + 1 : Nat)) (-s) (Lay.sAt td tr m - Lay.sNr td tr m) j ∨ Lay.In (root + s * (Lay.sAt td tr m + 1 : Nat)) s (m - 1 - Lay.sAt td tr m) j
      have hj : Lay.In root s m j := hj
      clear i0 i1 i2 i3 h1 h2 h3 h4 h5 z1 z2 z3 tr1 rng
      generalize Lay.sAt td tr m = a at *
      generalize Lay.sNr td tr m = b at *
      rcases hs with rfl | rfl
      · rw [show root + 1 * ((a + 1 : Nat) : Int) = root + a + 1 by omega]
        unfold Lay.In at *
        omega
      · rw [show root + -1 * ((a + 1 : Nat) : Int) = root - a - 1 by omega]
        unfold Lay.In at *
        omega
def tkMu (W : List Tk) : Nat := (W.map fun t => 3 * t.m + 1).sum
/-- each joint's parent is set, or a task waits for it -/
def Arr (par : Int → Int) (n o : Nat) (A : List V) (W : List Tk) : Prop := ∀ j : Nat, 1 ≤ j → j < n → A[j - o]? = some (.int (par j)) ∨ ∃ t ∈ W, Lay.In t.root t.s t.m j
theorem Arr.none {par : Int → Int} {n o : Nat} {A : List V} {W : List Tk} {t : Tk} (a : Arr par n o A (W ++ [t])) (hm : t.m = 0) : Arr par n o A W := fun j h1 h2 => by
  rcases a j h1 h2 with h | ⟨u, hu, hi⟩
  · exact .inl h
  · rcases List.mem_append.mp hu with hu | hu
    · exact .inr ⟨u, hu, hi⟩
    · rw [List.mem_singleton.mp hu] at hi
      unfold Lay.In at hi
      omega
theorem Arr.set {par : Int → Int} {lev : Int → Nat} {n d r o : Nat} {A : List V} {W W' : List Tk} {t : Tk} (a : Arr par n o A (W ++ [t])) (S : TkStep par lev n d r t) (ho : o ≤ 1) (hA : n - o ≤ A.length) (hn : 1 ≤ n) {k : Nat} (hk : t.top = (k : Int) + o) (h1 : ∀ u ∈ W, u ∈ W') (hA' : t.tA ∈ W') (hB : t.tB ∈ W') (hC : t.tC ∈ W') :
    Arr par n o (A.set k (.int t.root)) W' := fun j j1 j2 => by
  have tt := S.t1
  have hkl : k < A.length := by omega
  by_cases c : j - o = k
  · refine .inl ?_
    rw [c, List.getElem?_set_self hkl]
    have : t.top = (j : Int) := by omega
    rw [← this, S.tp]
  rw [List.getElem?_set_ne (fun e => c e.symm)]
  rcases a j j1 j2 with h | ⟨u, hu, hi⟩
  · exact .inl h
  refine .inr ?_
  rcases List.mem_append.mp hu with hu | hu
  · exact ⟨u, h1 u hu, hi⟩
  · rw [List.mem_singleton.mp hu] at hi
    rcases S.cover j hi with e | e | e | e
    · exfalso; omega
    · exact ⟨_, hA', e⟩
    · exact ⟨_, hB, e⟩
    · exact ⟨_, hC, e⟩
/-- the answer -/
def parL (par : Int → Int) (n : Nat) : List Int := (List.range (n - 1)).map fun (k : Nat) => par ((k : Int) + 1)
theorem Arr.done0 {par : Int → Int} {n : Nat} {A : List V} (a : Arr par n 1 A []) (hA : A.length = n - 1) : A = (parL par n).map V.int := by
  apply List.ext_getElem?
  intro i
  unfold parL
  by_cases c : i < n - 1
  · rcases a (i + 1) (by omega) (by omega) with h | ⟨u, hu, _⟩
    · rw [List.getElem?_map, List.getElem?_map, List.getElem?_range c]
      rw [show i + 1 - 1 = i by omega] at h
      rw [h]
      simp
    · cases hu
  · rw [List.getElem?_eq_none (by omega), List.getElem?_eq_none (by simp; omega)]
theorem Arr.done1 {par : Int → Int} {n : Nat} {A : List V} (a : Arr par n 0 A []) (hA : A.length = n + 1) (hn : 1 ≤ n) : (A.drop 1).take (n - 1) = (parL par n).map V.int := by
  apply List.ext_getElem?
  intro i
  unfold parL
  by_cases c : i < n - 1
  · rcases a (i + 1) (by omega) (by omega) with h | ⟨u, hu, _⟩
    · rw [List.getElem?_take, if_pos c, List.getElem?_drop, List.getElem?_map, List.getElem?_map, List.getElem?_range c]
      rw [show i + 1 - 0 = 1 + i by omega] at h
      rw [h]
      simp [Int.add_comm]
    · cases hu
  · rw [List.getElem?_eq_none (by rw [List.length_take, List.length_drop]; omega), List.getElem?_eq_none (by simp; omega)]
/-- the two tasks of the start -/
def tk0 (n d r : Nat) : Tk := ⟨0, 1, d, r, min (n - 1) (Lay.hh d r), 0, n⟩
def tk1 (n d r : Nat) : Tk := ⟨n, -1, d, r, n - 1 - min (n - 1) (Lay.hh d r), 0, n⟩
theorem tk_start {par : Int → Int} {lev : Int → Nat} {n d r : Nat} (B : Lay.Built par lev n d r) (h : n ≤ Del.D d r) (hn : 1 ≤ n) : TkOk par lev n d r (tk0 n d r) ∧ TkOk par lev n d r (tk1 n d r) := by
  obtain ⟨z1, z2⟩ := Lay.top_sz h
  refine ⟨⟨.inl rfl, z1, Nat.le_refl _, Nat.le_refl _, B.a, fun j hj => ?_, by show (0 : Int) ≤ 0; decide, by show (0 : Int) ≤ n; omega⟩, ⟨.inr rfl, z2, Nat.le_refl _, Nat.le_refl _, B.b, fun j hj => ?_, by show (0 : Int) ≤ n; omega, Int.le_refl _⟩⟩
  · simp only [tk0] at hj
    unfold Lay.In at hj
    omega
  · simp only [tk1] at hj
    unfold Lay.In at hj
    omega
theorem arr_start {par : Int → Int} {n d r o : Nat} (A : List V) (W : List Tk) (h0 : tk0 n d r ∈ W) (h1 : tk1 n d r ∈ W) : Arr par n o A W := fun j j1 j2 => by
  by_cases c : j ≤ min (n - 1) (Lay.hh d r)
  · exact .inr ⟨_, h0, by simp only [tk0]; unfold Lay.In; omega⟩
  · exact .inr ⟨_, h1, by simp only [tk1]; unfold Lay.In; omega⟩
end L3
set_option maxHeartbeats 1000000
/-! MCh: chains of parents in plain numbers. -/
namespace Lay
theorem nodup_len : ∀ (m : Nat) (L : List Nat), L.Nodup → (∀ x ∈ L, x < m) → L.length ≤ m
  | 0, L, _, h => by
    cases L with
    | nil => exact Nat.le_refl _
    | cons a L => exact absurd (h a List.mem_cons_self) (Nat.not_lt_zero _)
  | m + 1, L, hn, h => by
    by_cases c : m ∈ L
    · have h1 := nodup_len m (L.erase m) (hn.erase m) (fun x hx => by
        have hx' := (hn.mem_erase_iff).mp hx
        have := h x hx'.2
        omega)
      rw [List.length_erase_of_mem c] at h1
      omega
    · have h1 := nodup_len m L hn (fun x hx => by
        have := h x hx
        have : x ≠ m := fun e => c (e ▸ hx)
        omega)
      omega
/-- from j up to an end in k steps -/
inductive Ch (nx : Int → Int) (n : Nat) : Int → Nat → Prop
  | z : Ch nx n 0 0
  | n : Ch nx n n 0
  | s {j : Int} {k : Nat} : 1 ≤ j → j < n → Ch nx n (nx j) k → Ch nx n j (k + 1)
section
variable {nx : Int → Int} {n : Nat}
theorem Ch.end0 {j : Int} {k : Nat} (h : Ch nx n j k) (hj : j = 0 ∨ j = n) : k = 0 := by
  cases h with
  | z => rfl
  | n => rfl
  | s h1 h2 _ => omega
theorem Ch.step {j : Int} {k : Nat} (h : Ch nx n j k) (h1 : 1 ≤ j) (h2 : j < n) : ∃ k', k = k' + 1 ∧ Ch nx n (nx j) k' := by
  generalize e : j = i at h
  cases h with
  | z => omega
  | n => omega
  | s _ _ h => subst e; exact ⟨_, rfl, h⟩
theorem Ch.uniq : ∀ {j : Int} {k k' : Nat}, Ch nx n j k → Ch nx n j k' → k = k' := by
  intro j k k' h
  induction h generalizing k' with
  | z => intro g; exact (g.end0 (.inl rfl)).symm
  | n => intro g; exact (g.end0 (.inr rfl)).symm
  | s h1 h2 _ ih =>
    intro g
    obtain ⟨k2, e, g2⟩ := g.step h1 h2
    rw [e, ih g2]
theorem Ch.rng {j : Int} {k : Nat} (h : Ch nx n j k) : 0 ≤ j ∧ j ≤ n := by
  cases h with
  | z => omega
  | n => omega
  | s h1 h2 _ => omega
/-- joints of each length below -/
theorem Ch.down : ∀ {k : Nat} {j : Int}, Ch nx n j k → ∀ i, i ≤ k → ∃ j', Ch nx n j' i
  | 0, j, h, i, hi => ⟨j, by rw [show i = 0 by omega]; exact h⟩
  | k + 1, j, h, i, hi => by
    by_cases c : i = k + 1
    · exact ⟨j, by rw [c]; exact h⟩
    · cases h with
      | s h1 h2 g => exact Ch.down g i (by omega)
theorem Ch.lt {j : Int} {k : Nat} (h : Ch nx n j k) (hn : 1 ≤ n) : k < n := by
  refine Nat.lt_of_not_le fun c => ?_
  have key : ∀ i, ∃ x : Nat, i < n → 1 ≤ x ∧ x < n ∧ Ch nx n x (i + 1) := fun i => by
    by_cases hi : i < n
    · obtain ⟨j', g⟩ := h.down (i + 1) (by omega)
      cases g with
      | s h1 h2 g => exact ⟨j'.toNat, fun _ => ⟨by omega, by omega, by rw [Int.toNat_of_nonneg (by omega)]; exact .s h1 h2 g⟩⟩
    · exact ⟨0, fun z => absurd z hi⟩
  have nd : ((List.range n).map fun i => Classical.choose (key i) - 1).Nodup := by
    refine nd_map (fun x hx y hy e => ?_) List.nodup_range
    have a := Classical.choose_spec (key x) (List.mem_range.mp hx)
    have b := Classical.choose_spec (key y) (List.mem_range.mp hy)
    have e' : Classical.choose (key x) = Classical.choose (key y) := by omega
    rw [e'] at a
    have := a.2.2.uniq b.2.2
    omega
  have h1 := nodup_len (n - 1) _ nd (fun x hx => by
    obtain ⟨i, hi, rfl⟩ := List.mem_map.mp hx
    have a := Classical.choose_spec (key i) (List.mem_range.mp hi)
    omega)
  rw [List.length_map, List.length_range] at h1
  omega
end
open Classical in
/-- the chain's length, -1 where there is none -/
noncomputable def cl (nx : Int → Int) (n : Nat) (j : Int) : Int := if h : ∃ k, Ch nx n j k then ((Classical.choose h : Nat) : Int) else -1
section
variable {nx : Int → Int} {n : Nat}
theorem cl_of {j : Int} {k : Nat} (h : Ch nx n j k) : cl nx n j = k := by
  unfold cl
  rw [dif_pos ⟨k, h⟩]
  have := Ch.uniq (Classical.choose_spec (⟨k, h⟩ : ∃ k, Ch nx n j k)) h
  rw [this]
theorem cl_no {j : Int} (h : ¬ ∃ k, Ch nx n j k) : cl nx n j = -1 := by unfold cl; rw [dif_neg h]
theorem cl_pos {j : Int} (h : 0 ≤ cl nx n j) : Ch nx n j (cl nx n j).toNat := by
  by_cases c : ∃ k, Ch nx n j k
  · obtain ⟨k, hk⟩ := c
    rw [cl_of hk, Int.toNat_natCast]
    exact hk
  · rw [cl_no c] at h
    omega
theorem cl_ge (j : Int) : -1 ≤ cl nx n j := by
  by_cases c : ∃ k, Ch nx n j k
  · obtain ⟨k, hk⟩ := c
    rw [cl_of hk]; omega
  · rw [cl_no c]; omega
theorem cl_0 : cl nx n 0 = 0 := cl_of .z
theorem cl_n : cl nx n n = 0 := cl_of .n
theorem cl_step {j : Int} (h1 : 1 ≤ j) (h2 : j < n) : cl nx n j = if 0 ≤ cl nx n (nx j) then cl nx n (nx j) + 1 else -1 := by
  by_cases c : ∃ k, Ch nx n (nx j) k
  · obtain ⟨k, hk⟩ := c
    rw [cl_of hk, cl_of (.s h1 h2 hk), if_pos (by omega)]
    omega
  · rw [cl_no c, if_neg (by omega)]
    refine cl_no fun ⟨k, hk⟩ => ?_
    obtain ⟨k', _, g⟩ := hk.step h1 h2
    exact c ⟨k', g⟩
theorem cl_lt {j : Int} (hn : 1 ≤ n) : cl nx n j < n := by
  by_cases c : 0 ≤ cl nx n j
  · have := (cl_pos c).lt hn
    omega
  · omega
/-- a way that comes back has no end -/
theorem ring {w : Nat → Int} : ∀ (m : Nat), (∀ i, i < m → 1 ≤ w i ∧ w i < n ∧ w (i + 1) = nx (w i)) → ∀ {k : Nat}, Ch nx n (w 0) k → ∃ k', k = k' + m ∧ Ch nx n (w m) k'
  | 0, _, k, h => ⟨k, rfl, h⟩
  | m + 1, hw, k, h => by
    obtain ⟨k', e, g⟩ := ring m (fun i hi => hw i (by omega)) h
    obtain ⟨a, b, c⟩ := hw m (by omega)
    obtain ⟨k2, e2, g2⟩ := g.step a b
    exact ⟨k2, by omega, by rw [c]; exact g2⟩
theorem ring_no {w : Nat → Int} {m : Nat} (hm : 1 ≤ m) (hw : ∀ i, i < m → 1 ≤ w i ∧ w i < n ∧ w (i + 1) = nx (w i)) (e : w m = w 0) : cl nx n (w 0) = -1 := by
  refine cl_no fun ⟨k, h⟩ => ?_
  obtain ⟨k', e1, g⟩ := ring m hw h
  rw [e] at g
  have := h.uniq g
  omega
/-- all joints come to an end: a layout -/
theorem tree_of {d : Nat} (hr : ∀ j : Int, 1 ≤ j → j < n → 0 ≤ cl nx n j ∧ cl nx n j ≤ d) : Tree nx (fun j => (cl nx n j).toNat) n d := by
  refine ⟨fun j h1 h2 => ?_, fun j h1 h2 => ?_⟩
  · obtain ⟨a, b⟩ := hr j h1 h2
    have e := cl_step (nx := nx) h1 h2
    split at e <;> omega
  · obtain ⟨a, b⟩ := hr j h1 h2
    have e := cl_step (nx := nx) h1 h2
    split at e <;> omega
theorem cl_congr {nx' : Int → Int} (h : ∀ j : Int, 1 ≤ j → j < n → nx' j = nx j) : ∀ j, cl nx' n j = cl nx n j := by
  have key : ∀ {a b : Int → Int}, (∀ j : Int, 1 ≤ j → j < n → a j = b j) → ∀ {j : Int} {k : Nat}, Ch a n j k → Ch b n j k := by
    intro a b hab j k c
    induction c with
    | z => exact .z
    | n => exact .n
    | s h1 h2 _ ih => rw [hab _ h1 h2] at ih; exact .s h1 h2 ih
  intro j
  by_cases c : ∃ k, Ch nx n j k
  · obtain ⟨k, hk⟩ := c
    rw [cl_of hk, cl_of (key (fun j h1 h2 => (h j h1 h2).symm) hk)]
  · rw [cl_no c]
    refine cl_no fun ⟨k, hk⟩ => c ⟨k, key h hk⟩
end
end Lay
set_option maxRecDepth 100000
set_option maxHeartbeats 0
namespace K27
open PySem PySem.Spec PyProof.Rows L2 L3
/-! ### where the defs stand -/
def top (i : Nat) : Stmt := PySem.Challenge.pw_toldoutside_k27_judged_layouts.main.body.getD i (.Pass ⟨0, 0, 0, 0⟩)
abbrev s_bound : Stmt := top 20
abbrev s_check_parts : Stmt := top 22
abbrev s_right_parents : Stmt := top 23
abbrev s_chains_to : Stmt := top 24
abbrev s_wrong_parent : Stmt := top 25
abbrev s_loads_of : Stmt := top 26
abbrev s_chain_lengths : Stmt := top 27
abbrev s_part_loads : Stmt := top 28
abbrev s_judge_layout : Stmt := top 29
abbrev s__law_source : Stmt := top 31
abbrev s__law_pick : Stmt := top 32
abbrev s__law_shuffled : Stmt := top 33
abbrev s__law_same : Stmt := top 34
abbrev s__law_copied : Stmt := top 35
abbrev s__law_fault : Stmt := top 36
abbrev s__law_reach : Stmt := top 37
abbrev s__law_layout : Stmt := top 38
abbrev s__law_f_right : Stmt := top 39
abbrev s__law_f_chain : Stmt := top 40
abbrev s__law_f_loads : Stmt := top 41
abbrev s__law_f_fault : Stmt := top 42
abbrev s__law_f_judged : Stmt := top 43
abbrev s__law_f_asked : Stmt := top 44
abbrev s__law_f_agree : Stmt := top 45
abbrev s__law_f_hung : Stmt := top 46
abbrev s__law_f_spoilt : Stmt := top 47
abbrev s_law : Stmt := top 48
abbrev i_TooMany : Stmt := inClass (top 2) 0
abbrev i_BadText : Stmt := inClass (top 3) 0
abbrev i_BadFormat : Stmt := inClass (top 4) 0
abbrev i_BadValue : Stmt := inClass (top 5) 0
abbrev i_BadShape : Stmt := inClass (top 6) 0
abbrev i_BadRow : Stmt := inClass (top 7) 0
abbrev i_BadSet : Stmt := inClass (top 8) 0
abbrev i_BadReader : Stmt := inClass (top 9) 0
abbrev i_BadLayout : Stmt := inClass (top 10) 0
abbrev i_BadCheck : Stmt := inClass (top 11) 0
abbrev i_BadCode : Stmt := inClass (top 12) 0
abbrev i_BadFeed : Stmt := inClass (top 13) 0
abbrev i_BadEdit : Stmt := inClass (top 14) 0
abbrev i_BadPatch : Stmt := inClass (top 15) 0
abbrev i_BadPaper : Stmt := inClass (top 16) 0
abbrev i_BadDeed : Stmt := inClass (top 17) 0
/-! ### what the head tells -/
def errs : List Str := (["TooMany", "BadText", "BadFormat", "BadValue", "BadShape", "BadRow", "BadSet", "BadReader", "BadLayout", "BadCheck", "BadCode", "BadFeed", "BadEdit", "BadPatch", "BadPaper", "BadDeed"] : List Str)
structure Txt (w : World) (K : PySem.W.Frag) (mg : Str → Option Value) : Prop where
  g_bound : mg "bound" = some (.ref (He.ga K "bound"))
  d_bound : ∃ fd, FunD K "bound" "bound" (defArgs s_bound) (defBody s_bound) (defScope s_bound) [] [] (He.ga K "bound") fd
  g_check_parts : mg "check_parts" = some (.ref (He.ga K "check_parts"))
  d_check_parts : ∃ fd, FunD K "check_parts" "check_parts" (defArgs s_check_parts) (defBody s_check_parts) (defScope s_check_parts) [] [] (He.ga K "check_parts") fd
  g_right_parents : mg "right_parents" = some (.ref (He.ga K "right_parents"))
  d_right_parents : ∃ fd, FunD K "right_parents" "right_parents" (defArgs s_right_parents) (defBody s_right_parents) (defScope s_right_parents) [] [] (He.ga K "right_parents") fd
  g_chains_to : mg "chains_to" = some (.ref (He.ga K "chains_to"))
  d_chains_to : ∃ fd, FunD K "chains_to" "chains_to" (defArgs s_chains_to) (defBody s_chains_to) (defScope s_chains_to) [] [] (He.ga K "chains_to") fd
  g_wrong_parent : mg "wrong_parent" = some (.ref (He.ga K "wrong_parent"))
  d_wrong_parent : ∃ fd, FunD K "wrong_parent" "wrong_parent" (defArgs s_wrong_parent) (defBody s_wrong_parent) (defScope s_wrong_parent) [] [] (He.ga K "wrong_parent") fd
  g_loads_of : mg "loads_of" = some (.ref (He.ga K "loads_of"))
  d_loads_of : ∃ fd, FunD K "loads_of" "loads_of" (defArgs s_loads_of) (defBody s_loads_of) (defScope s_loads_of) [] [] (He.ga K "loads_of") fd
  g_chain_lengths : mg "chain_lengths" = some (.ref (He.ga K "chain_lengths"))
  d_chain_lengths : ∃ fd, FunD K "chain_lengths" "chain_lengths" (defArgs s_chain_lengths) (defBody s_chain_lengths) (defScope s_chain_lengths) [] [] (He.ga K "chain_lengths") fd
  g_part_loads : mg "part_loads" = some (.ref (He.ga K "part_loads"))
  d_part_loads : ∃ fd, FunD K "part_loads" "part_loads" (defArgs s_part_loads) (defBody s_part_loads) (defScope s_part_loads) [] [] (He.ga K "part_loads") fd
  g_judge_layout : mg "judge_layout" = some (.ref (He.ga K "judge_layout"))
  d_judge_layout : ∃ fd, FunD K "judge_layout" "judge_layout" (defArgs s_judge_layout) (defBody s_judge_layout) (defScope s_judge_layout) [] [] (He.ga K "judge_layout") fd
  g__law_source : mg "_law_source" = some (.ref (He.ga K "_law_source"))
  d__law_source : ∃ fd, FunD K "_law_source" "_law_source" (defArgs s__law_source) (defBody s__law_source) (defScope s__law_source) [] [] (He.ga K "_law_source") fd
  g__law_pick : mg "_law_pick" = some (.ref (He.ga K "_law_pick"))
  d__law_pick : ∃ fd, FunD K "_law_pick" "_law_pick" (defArgs s__law_pick) (defBody s__law_pick) (defScope s__law_pick) [] [] (He.ga K "_law_pick") fd
  g__law_shuffled : mg "_law_shuffled" = some (.ref (He.ga K "_law_shuffled"))
  d__law_shuffled : ∃ fd, FunD K "_law_shuffled" "_law_shuffled" (defArgs s__law_shuffled) (defBody s__law_shuffled) (defScope s__law_shuffled) [] [] (He.ga K "_law_shuffled") fd
  g__law_same : mg "_law_same" = some (.ref (He.ga K "_law_same"))
  d__law_same : ∃ fd, FunD K "_law_same" "_law_same" (defArgs s__law_same) (defBody s__law_same) (defScope s__law_same) [] [] (He.ga K "_law_same") fd
  g__law_copied : mg "_law_copied" = some (.ref (He.ga K "_law_copied"))
  d__law_copied : ∃ fd, FunD K "_law_copied" "_law_copied" (defArgs s__law_copied) (defBody s__law_copied) (defScope s__law_copied) [] [] (He.ga K "_law_copied") fd
  g__law_fault : mg "_law_fault" = some (.ref (He.ga K "_law_fault"))
  d__law_fault : ∃ fd, FunD K "_law_fault" "_law_fault" (defArgs s__law_fault) (defBody s__law_fault) (defScope s__law_fault) [] [] (He.ga K "_law_fault") fd
  g__law_reach : mg "_law_reach" = some (.ref (He.ga K "_law_reach"))
  d__law_reach : ∃ fd, FunD K "_law_reach" "_law_reach" (defArgs s__law_reach) (defBody s__law_reach) (defScope s__law_reach) [] [] (He.ga K "_law_reach") fd
  g__law_layout : mg "_law_layout" = some (.ref (He.ga K "_law_layout"))
  d__law_layout : ∃ fd, FunD K "_law_layout" "_law_layout" (defArgs s__law_layout) (defBody s__law_layout) (defScope s__law_layout) [] [] (He.ga K "_law_layout") fd
  g__law_f_right : mg "_law_f_right" = some (.ref (He.ga K "_law_f_right"))
  d__law_f_right : ∃ fd, FunD K "_law_f_right" "_law_f_right" (defArgs s__law_f_right) (defBody s__law_f_right) (defScope s__law_f_right) [] [] (He.ga K "_law_f_right") fd
  g__law_f_chain : mg "_law_f_chain" = some (.ref (He.ga K "_law_f_chain"))
  d__law_f_chain : ∃ fd, FunD K "_law_f_chain" "_law_f_chain" (defArgs s__law_f_chain) (defBody s__law_f_chain) (defScope s__law_f_chain) [] [] (He.ga K "_law_f_chain") fd
  g__law_f_loads : mg "_law_f_loads" = some (.ref (He.ga K "_law_f_loads"))
  d__law_f_loads : ∃ fd, FunD K "_law_f_loads" "_law_f_loads" (defArgs s__law_f_loads) (defBody s__law_f_loads) (defScope s__law_f_loads) [] [] (He.ga K "_law_f_loads") fd
  g__law_f_fault : mg "_law_f_fault" = some (.ref (He.ga K "_law_f_fault"))
  d__law_f_fault : ∃ fd, FunD K "_law_f_fault" "_law_f_fault" (defArgs s__law_f_fault) (defBody s__law_f_fault) (defScope s__law_f_fault) [] [] (He.ga K "_law_f_fault") fd
  g__law_f_judged : mg "_law_f_judged" = some (.ref (He.ga K "_law_f_judged"))
  d__law_f_judged : ∃ fd, FunD K "_law_f_judged" "_law_f_judged" (defArgs s__law_f_judged) (defBody s__law_f_judged) (defScope s__law_f_judged) [] [] (He.ga K "_law_f_judged") fd
  g__law_f_asked : mg "_law_f_asked" = some (.ref (He.ga K "_law_f_asked"))
  d__law_f_asked : ∃ fd, FunD K "_law_f_asked" "_law_f_asked" (defArgs s__law_f_asked) (defBody s__law_f_asked) (defScope s__law_f_asked) [] [] (He.ga K "_law_f_asked") fd
  g__law_f_agree : mg "_law_f_agree" = some (.ref (He.ga K "_law_f_agree"))
  d__law_f_agree : ∃ fd, FunD K "_law_f_agree" "_law_f_agree" (defArgs s__law_f_agree) (defBody s__law_f_agree) (defScope s__law_f_agree) [] [] (He.ga K "_law_f_agree") fd
  g__law_f_hung : mg "_law_f_hung" = some (.ref (He.ga K "_law_f_hung"))
  d__law_f_hung : ∃ fd, FunD K "_law_f_hung" "_law_f_hung" (defArgs s__law_f_hung) (defBody s__law_f_hung) (defScope s__law_f_hung) [] [] (He.ga K "_law_f_hung") fd
  g__law_f_spoilt : mg "_law_f_spoilt" = some (.ref (He.ga K "_law_f_spoilt"))
  d__law_f_spoilt : ∃ fd, FunD K "_law_f_spoilt" "_law_f_spoilt" (defArgs s__law_f_spoilt) (defBody s__law_f_spoilt) (defScope s__law_f_spoilt) [] [] (He.ga K "_law_f_spoilt") fd
  g_law : mg "law" = some (.ref (He.ga K "law"))
  d_law : ∃ fd, FunD K "law" "law" (defArgs s_law) (defBody s_law) (defScope s_law) [] [] (He.ga K "law") fd
  g_TooMany : mg "TooMany" = some (.ref (He.ga K "TooMany"))
  e_TooMany : ErrC K "TooMany" (["what"] : List Str)
  d_TooMany : ∃ fd, FunD K "__init__" "TooMany.__init__" (defArgs i_TooMany) (defBody i_TooMany) (defScope i_TooMany) [] [] (He.ma K (He.ga K "TooMany") "__init__") fd
  g_BadText : mg "BadText" = some (.ref (He.ga K "BadText"))
  e_BadText : ErrC K "BadText" (["line"] : List Str)
  d_BadText : ∃ fd, FunD K "__init__" "BadText.__init__" (defArgs i_BadText) (defBody i_BadText) (defScope i_BadText) [] [] (He.ma K (He.ga K "BadText") "__init__") fd
  g_BadFormat : mg "BadFormat" = some (.ref (He.ga K "BadFormat"))
  e_BadFormat : ErrC K "BadFormat" (["line", "what"] : List Str)
  d_BadFormat : ∃ fd, FunD K "__init__" "BadFormat.__init__" (defArgs i_BadFormat) (defBody i_BadFormat) (defScope i_BadFormat) [] [] (He.ma K (He.ga K "BadFormat") "__init__") fd
  g_BadValue : mg "BadValue" = some (.ref (He.ga K "BadValue"))
  e_BadValue : ErrC K "BadValue" (["path", "what"] : List Str)
  d_BadValue : ∃ fd, FunD K "__init__" "BadValue.__init__" (defArgs i_BadValue) (defBody i_BadValue) (defScope i_BadValue) [] [] (He.ma K (He.ga K "BadValue") "__init__") fd
  g_BadShape : mg "BadShape" = some (.ref (He.ga K "BadShape"))
  e_BadShape : ErrC K "BadShape" (["place"] : List Str)
  d_BadShape : ∃ fd, FunD K "__init__" "BadShape.__init__" (defArgs i_BadShape) (defBody i_BadShape) (defScope i_BadShape) [] [] (He.ma K (He.ga K "BadShape") "__init__") fd
  g_BadRow : mg "BadRow" = some (.ref (He.ga K "BadRow"))
  e_BadRow : ErrC K "BadRow" (["what", "place"] : List Str)
  d_BadRow : ∃ fd, FunD K "__init__" "BadRow.__init__" (defArgs i_BadRow) (defBody i_BadRow) (defScope i_BadRow) [] [] (He.ma K (He.ga K "BadRow") "__init__") fd
  g_BadSet : mg "BadSet" = some (.ref (He.ga K "BadSet"))
  e_BadSet : ErrC K "BadSet" (["place", "joint"] : List Str)
  d_BadSet : ∃ fd, FunD K "__init__" "BadSet.__init__" (defArgs i_BadSet) (defBody i_BadSet) (defScope i_BadSet) [] [] (He.ma K (He.ga K "BadSet") "__init__") fd
  g_BadReader : mg "BadReader" = some (.ref (He.ga K "BadReader"))
  e_BadReader : ErrC K "BadReader" (["step", "what"] : List Str)
  d_BadReader : ∃ fd, FunD K "__init__" "BadReader.__init__" (defArgs i_BadReader) (defBody i_BadReader) (defScope i_BadReader) [] [] (He.ma K (He.ga K "BadReader") "__init__") fd
  g_BadLayout : mg "BadLayout" = some (.ref (He.ga K "BadLayout"))
  e_BadLayout : ErrC K "BadLayout" (["what"] : List Str)
  d_BadLayout : ∃ fd, FunD K "__init__" "BadLayout.__init__" (defArgs i_BadLayout) (defBody i_BadLayout) (defScope i_BadLayout) [] [] (He.ma K (He.ga K "BadLayout") "__init__") fd
  g_BadCheck : mg "BadCheck" = some (.ref (He.ga K "BadCheck"))
  e_BadCheck : ErrC K "BadCheck" (["what"] : List Str)
  d_BadCheck : ∃ fd, FunD K "__init__" "BadCheck.__init__" (defArgs i_BadCheck) (defBody i_BadCheck) (defScope i_BadCheck) [] [] (He.ma K (He.ga K "BadCheck") "__init__") fd
  g_BadCode : mg "BadCode" = some (.ref (He.ga K "BadCode"))
  e_BadCode : ErrC K "BadCode" (["row", "what"] : List Str)
  d_BadCode : ∃ fd, FunD K "__init__" "BadCode.__init__" (defArgs i_BadCode) (defBody i_BadCode) (defScope i_BadCode) [] [] (He.ma K (He.ga K "BadCode") "__init__") fd
  g_BadFeed : mg "BadFeed" = some (.ref (He.ga K "BadFeed"))
  e_BadFeed : ErrC K "BadFeed" (["what"] : List Str)
  d_BadFeed : ∃ fd, FunD K "__init__" "BadFeed.__init__" (defArgs i_BadFeed) (defBody i_BadFeed) (defScope i_BadFeed) [] [] (He.ma K (He.ga K "BadFeed") "__init__") fd
  g_BadEdit : mg "BadEdit" = some (.ref (He.ga K "BadEdit"))
  e_BadEdit : ErrC K "BadEdit" (["what"] : List Str)
  d_BadEdit : ∃ fd, FunD K "__init__" "BadEdit.__init__" (defArgs i_BadEdit) (defBody i_BadEdit) (defScope i_BadEdit) [] [] (He.ma K (He.ga K "BadEdit") "__init__") fd
  g_BadPatch : mg "BadPatch" = some (.ref (He.ga K "BadPatch"))
  e_BadPatch : ErrC K "BadPatch" (["row", "what"] : List Str)
  d_BadPatch : ∃ fd, FunD K "__init__" "BadPatch.__init__" (defArgs i_BadPatch) (defBody i_BadPatch) (defScope i_BadPatch) [] [] (He.ma K (He.ga K "BadPatch") "__init__") fd
  g_BadPaper : mg "BadPaper" = some (.ref (He.ga K "BadPaper"))
  e_BadPaper : ErrC K "BadPaper" (["line"] : List Str)
  d_BadPaper : ∃ fd, FunD K "__init__" "BadPaper.__init__" (defArgs i_BadPaper) (defBody i_BadPaper) (defScope i_BadPaper) [] [] (He.ma K (He.ga K "BadPaper") "__init__") fd
  g_BadDeed : mg "BadDeed" = some (.ref (He.ga K "BadDeed"))
  e_BadDeed : ErrC K "BadDeed" (["what"] : List Str)
  d_BadDeed : ∃ fd, FunD K "__init__" "BadDeed.__init__" (defArgs i_BadDeed) (defBody i_BadDeed) (defScope i_BadDeed) [] [] (He.ma K (He.ga K "BadDeed") "__init__") fd
  g_OutsideError : mg "OutsideError" = some (.ref (He.ga K "OutsideError"))
  kits : Kits K "OutsideError" errs
  g_LIMITS : mg "LIMITS" = some (.ref (He.ga K "LIMITS"))
  t_LIMITS : ∀ k i, (k, i) ∈ ([("lines", 300), ("words", 40), ("bears", 3), ("checks", 6), ("letters", 8), ("states", 12), ("forms", 12), ("parts", 8), ("told", 24), ("pick", 6), ("width", 30), ("copies", 7), ("depth", 6), ("versions", 9), ("promises", 20), ("edits", 100), ("number", 1000000000000000000000000000000), ("nested", 60), ("shape", 400), ("elements", 400), ("signs", 4000), ("sets", 64), ("ways", 7), ("asks", 300), ("layout", 400), ("reach", 10000), ("deeds", 200), ("paper", 4000)] : List (Str × Int)) → KDct K w (He.ga K "LIMITS") k (.int i)
  f_ValueError : mg "ValueError" = none
  f_range : mg "range" = none
  f_list : mg "list" = none
  f_isinstance : mg "isinstance" = none
  f_dict : mg "dict" = none
  f_tuple : mg "tuple" = none
  f_min : mg "min" = none
  f_max : mg "max" = none
  f_len : mg "len" = none
  f_int : mg "int" = none
  f_abs : mg "abs" = none
  f_all : mg "all" = none
  f_bool : mg "bool" = none
  f_str : mg "str" = none
  f_sum : mg "sum" = none
  f_sorted : mg "sorted" = none
def fa : List He.Fa := [.glo "bound", .glo "check_parts", .glo "right_parents", .glo "chains_to", .glo "wrong_parent", .glo "loads_of", .glo "chain_lengths", .glo "part_loads", .glo "judge_layout", .glo "_law_source", .glo "_law_pick", .glo "_law_shuffled", .glo "_law_same", .glo "_law_copied", .glo "_law_fault", .glo "_law_reach", .glo "_law_layout", .glo "_law_f_right", .glo "_law_f_chain", .glo "_law_f_loads", .glo "_law_f_fault", .glo "_law_f_judged", .glo "_law_f_asked", .glo "_law_f_agree", .glo "_law_f_hung", .glo "_law_f_spoilt", .glo "law", .glo "TooMany", .glo "BadText", .glo "BadFormat", .glo "BadValue", .glo "BadShape", .glo "BadRow", .glo "BadSet", .glo "BadReader", .glo "BadLayout", .glo "BadCheck", .glo "BadCode", .glo "BadFeed", .glo "BadEdit", .glo "BadPatch", .glo "BadPaper", .glo "BadDeed", .glo "OutsideError", .glo "LIMITS", .free "ValueError", .free "range", .free "list", .free "isinstance", .free "dict", .free "tuple", .free "min", .free "max", .free "len", .free "int", .free "abs", .free "all", .free "bool", .free "str", .free "sum", .free "sorted"]
def fn : List He.DefD := [
  ⟨("bound", none), "bound", "bound", defArgs s_bound, defBody s_bound, defScope s_bound, [], []⟩,
  ⟨("check_parts", none), "check_parts", "check_parts", defArgs s_check_parts, defBody s_check_parts, defScope s_check_parts, [], []⟩,
  ⟨("right_parents", none), "right_parents", "right_parents", defArgs s_right_parents, defBody s_right_parents, defScope s_right_parents, [], []⟩,
  ⟨("chains_to", none), "chains_to", "chains_to", defArgs s_chains_to, defBody s_chains_to, defScope s_chains_to, [], []⟩,
  ⟨("wrong_parent", none), "wrong_parent", "wrong_parent", defArgs s_wrong_parent, defBody s_wrong_parent, defScope s_wrong_parent, [], []⟩,
  ⟨("loads_of", none), "loads_of", "loads_of", defArgs s_loads_of, defBody s_loads_of, defScope s_loads_of, [], []⟩,
  ⟨("chain_lengths", none), "chain_lengths", "chain_lengths", defArgs s_chain_lengths, defBody s_chain_lengths, defScope s_chain_lengths, [], []⟩,
  ⟨("part_loads", none), "part_loads", "part_loads", defArgs s_part_loads, defBody s_part_loads, defScope s_part_loads, [], []⟩,
  ⟨("judge_layout", none), "judge_layout", "judge_layout", defArgs s_judge_layout, defBody s_judge_layout, defScope s_judge_layout, [], []⟩,
  ⟨("_law_source", none), "_law_source", "_law_source", defArgs s__law_source, defBody s__law_source, defScope s__law_source, [], []⟩,
  ⟨("_law_pick", none), "_law_pick", "_law_pick", defArgs s__law_pick, defBody s__law_pick, defScope s__law_pick, [], []⟩,
  ⟨("_law_shuffled", none), "_law_shuffled", "_law_shuffled", defArgs s__law_shuffled, defBody s__law_shuffled, defScope s__law_shuffled, [], []⟩,
  ⟨("_law_same", none), "_law_same", "_law_same", defArgs s__law_same, defBody s__law_same, defScope s__law_same, [], []⟩,
  ⟨("_law_copied", none), "_law_copied", "_law_copied", defArgs s__law_copied, defBody s__law_copied, defScope s__law_copied, [], []⟩,
  ⟨("_law_fault", none), "_law_fault", "_law_fault", defArgs s__law_fault, defBody s__law_fault, defScope s__law_fault, [], []⟩,
  ⟨("_law_reach", none), "_law_reach", "_law_reach", defArgs s__law_reach, defBody s__law_reach, defScope s__law_reach, [], []⟩,
  ⟨("_law_layout", none), "_law_layout", "_law_layout", defArgs s__law_layout, defBody s__law_layout, defScope s__law_layout, [], []⟩,
  ⟨("_law_f_right", none), "_law_f_right", "_law_f_right", defArgs s__law_f_right, defBody s__law_f_right, defScope s__law_f_right, [], []⟩,
  ⟨("_law_f_chain", none), "_law_f_chain", "_law_f_chain", defArgs s__law_f_chain, defBody s__law_f_chain, defScope s__law_f_chain, [], []⟩,
  ⟨("_law_f_loads", none), "_law_f_loads", "_law_f_loads", defArgs s__law_f_loads, defBody s__law_f_loads, defScope s__law_f_loads, [], []⟩,
  ⟨("_law_f_fault", none), "_law_f_fault", "_law_f_fault", defArgs s__law_f_fault, defBody s__law_f_fault, defScope s__law_f_fault, [], []⟩,
  ⟨("_law_f_judged", none), "_law_f_judged", "_law_f_judged", defArgs s__law_f_judged, defBody s__law_f_judged, defScope s__law_f_judged, [], []⟩,
  ⟨("_law_f_asked", none), "_law_f_asked", "_law_f_asked", defArgs s__law_f_asked, defBody s__law_f_asked, defScope s__law_f_asked, [], []⟩,
  ⟨("_law_f_agree", none), "_law_f_agree", "_law_f_agree", defArgs s__law_f_agree, defBody s__law_f_agree, defScope s__law_f_agree, [], []⟩,
  ⟨("_law_f_hung", none), "_law_f_hung", "_law_f_hung", defArgs s__law_f_hung, defBody s__law_f_hung, defScope s__law_f_hung, [], []⟩,
  ⟨("_law_f_spoilt", none), "_law_f_spoilt", "_law_f_spoilt", defArgs s__law_f_spoilt, defBody s__law_f_spoilt, defScope s__law_f_spoilt, [], []⟩,
  ⟨("law", none), "law", "law", defArgs s_law, defBody s_law, defScope s_law, [], []⟩,
  ⟨("TooMany", some "__init__"), "__init__", "TooMany.__init__", defArgs i_TooMany, defBody i_TooMany, defScope i_TooMany, [], []⟩,
  ⟨("BadText", some "__init__"), "__init__", "BadText.__init__", defArgs i_BadText, defBody i_BadText, defScope i_BadText, [], []⟩,
  ⟨("BadFormat", some "__init__"), "__init__", "BadFormat.__init__", defArgs i_BadFormat, defBody i_BadFormat, defScope i_BadFormat, [], []⟩,
  ⟨("BadValue", some "__init__"), "__init__", "BadValue.__init__", defArgs i_BadValue, defBody i_BadValue, defScope i_BadValue, [], []⟩,
  ⟨("BadShape", some "__init__"), "__init__", "BadShape.__init__", defArgs i_BadShape, defBody i_BadShape, defScope i_BadShape, [], []⟩,
  ⟨("BadRow", some "__init__"), "__init__", "BadRow.__init__", defArgs i_BadRow, defBody i_BadRow, defScope i_BadRow, [], []⟩,
  ⟨("BadSet", some "__init__"), "__init__", "BadSet.__init__", defArgs i_BadSet, defBody i_BadSet, defScope i_BadSet, [], []⟩,
  ⟨("BadReader", some "__init__"), "__init__", "BadReader.__init__", defArgs i_BadReader, defBody i_BadReader, defScope i_BadReader, [], []⟩,
  ⟨("BadLayout", some "__init__"), "__init__", "BadLayout.__init__", defArgs i_BadLayout, defBody i_BadLayout, defScope i_BadLayout, [], []⟩,
  ⟨("BadCheck", some "__init__"), "__init__", "BadCheck.__init__", defArgs i_BadCheck, defBody i_BadCheck, defScope i_BadCheck, [], []⟩,
  ⟨("BadCode", some "__init__"), "__init__", "BadCode.__init__", defArgs i_BadCode, defBody i_BadCode, defScope i_BadCode, [], []⟩,
  ⟨("BadFeed", some "__init__"), "__init__", "BadFeed.__init__", defArgs i_BadFeed, defBody i_BadFeed, defScope i_BadFeed, [], []⟩,
  ⟨("BadEdit", some "__init__"), "__init__", "BadEdit.__init__", defArgs i_BadEdit, defBody i_BadEdit, defScope i_BadEdit, [], []⟩,
  ⟨("BadPatch", some "__init__"), "__init__", "BadPatch.__init__", defArgs i_BadPatch, defBody i_BadPatch, defScope i_BadPatch, [], []⟩,
  ⟨("BadPaper", some "__init__"), "__init__", "BadPaper.__init__", defArgs i_BadPaper, defBody i_BadPaper, defScope i_BadPaper, [], []⟩,
  ⟨("BadDeed", some "__init__"), "__init__", "BadDeed.__init__", defArgs i_BadDeed, defBody i_BadDeed, defScope i_BadDeed, [], []⟩]
def ts : List He.Tab := [(fun K => He.ga K "LIMITS", (["lines", "words", "bears", "checks", "letters", "states", "forms", "parts", "told", "pick", "width", "copies", "depth", "versions", "promises", "edits", "number", "nested", "shape", "elements", "signs", "sets", "ways", "asks", "layout", "reach", "deeds", "paper"] : List Str))]
def kv_LIMITS : List (Str × Int) := [("lines", 300), ("words", 40), ("bears", 3), ("checks", 6), ("letters", 8), ("states", 12), ("forms", 12), ("parts", 8), ("told", 24), ("pick", 6), ("width", 30), ("copies", 7), ("depth", 6), ("versions", 9), ("promises", 20), ("edits", 100), ("number", 1000000000000000000000000000000), ("nested", 60), ("shape", 400), ("elements", 400), ("signs", 4000), ("sets", 64), ("ways", 7), ("asks", 300), ("layout", 400), ("reach", 10000), ("deeds", 200), ("paper", 4000)]
def exs : List (PySem.W.Frag → Bool) := [fun K => kitsB K "OutsideError" errs, fun K => errB K "TooMany" (["what"] : List Str), fun K => errB K "BadText" (["line"] : List Str), fun K => errB K "BadFormat" (["line", "what"] : List Str), fun K => errB K "BadValue" (["path", "what"] : List Str), fun K => errB K "BadShape" (["place"] : List Str), fun K => errB K "BadRow" (["what", "place"] : List Str), fun K => errB K "BadSet" (["place", "joint"] : List Str), fun K => errB K "BadReader" (["step", "what"] : List Str), fun K => errB K "BadLayout" (["what"] : List Str), fun K => errB K "BadCheck" (["what"] : List Str), fun K => errB K "BadCode" (["row", "what"] : List Str), fun K => errB K "BadFeed" (["what"] : List Str), fun K => errB K "BadEdit" (["what"] : List Str), fun K => errB K "BadPatch" (["row", "what"] : List Str), fun K => errB K "BadPaper" (["line"] : List Str), fun K => errB K "BadDeed" (["what"] : List Str), fun K => tabB K "LIMITS" kv_LIMITS]
def ex (K : PySem.W.Frag) : Bool := exs.all fun f => f K
abbrev R : PySem.W.OpenRow := PySem.W.OpenLaw.row PySem.Challenge.rw_toldoutside_k27_judged_layouts
abbrev hk : PySem.W.Hook := He.hookX 6 fa fn ts [] ex
def ob (s : PySem.W.SharedT) : He.AlX := He.obsX 6 fa fn ts [] ex (HandSHeadRun.getT s)
theorem ob_eq (s : PySem.W.SharedT) : ob s = hk.obs s.abs := He.obsX_eq (HandSHeadRun.getT_eq s)
def nm0 : List Str := (["OutsideError", "TooMany", "BadText", "BadFormat", "BadValue", "BadShape", "BadRow", "BadSet", "BadReader", "BadLayout", "BadCheck", "BadCode"] : List Str)
def nm1 : List Str := (["BadFeed", "BadEdit", "BadPatch", "BadPaper", "BadDeed", "LIMITS", "bound", "check_parts", "right_parents", "chains_to", "wrong_parent", "loads_of"] : List Str)
def nm2 : List Str := (["chain_lengths", "part_loads", "judge_layout", "_law_source", "_law_pick", "_law_shuffled", "_law_same", "_law_copied", "_law_fault", "_law_reach", "_law_layout", "_law_f_right"] : List Str)
def nm3 : List Str := (["_law_f_chain", "_law_f_loads", "_law_f_fault", "_law_f_judged", "_law_f_asked", "_law_f_agree", "_law_f_hung", "_law_f_spoilt"] : List Str)
def nms : List Str := nm0 ++ nm1 ++ nm2 ++ nm3
theorem run_false (w : World) : HandSHeadRun.RunEq R (PySem.W.view R.prog [48]) hk ob 6000 nms (w.withFollow "special-get-raises" false) := by
  intro os
  kernel_rfl
theorem run_true (w : World) : HandSHeadRun.RunEq R (PySem.W.view R.prog [48]) hk ob 6000 nms (w.withFollow "special-get-raises" true) := by
  intro os
  kernel_rfl
theorem run (w : World) : HandSHeadRun.RunEq R (PySem.W.view R.prog [48]) hk ob 6000 nms w := by
  have h : ∀ b : Bool, HandSHeadRun.RunEq R (PySem.W.view R.prog [48]) hk ob 6000 nms (w.withFollow "special-get-raises" b) := fun b => by
    cases b
    · exact run_false w
    · exact run_true w
  have z := h (w.params.followText "special-get-raises")
  rwa [World.withFollow_self] at z
theorem txt {w : World} {h : Heap} {K : PySem.W.Frag} {mg : Str → Option Value} (X : K.In h) (G : h.Ns mainGlobals mg) (c : He.SaysX fa fn ts [] ex w h K) : Txt w K mg := by
  have D := c.t.d
  have E : ∀ i (f : PySem.W.Frag → Bool), exs[i]? = some f → f K = true := fun i (f : PySem.W.Frag → Bool) e => List.all_eq_true.mp c.more f (List.mem_of_getElem? e)
  refine {
    g_bound := He.glo_ok X G (D.fact 0 (f := .glo "bound") rfl)
    g_check_parts := He.glo_ok X G (D.fact 1 (f := .glo "check_parts") rfl)
    g_right_parents := He.glo_ok X G (D.fact 2 (f := .glo "right_parents") rfl)
    g_chains_to := He.glo_ok X G (D.fact 3 (f := .glo "chains_to") rfl)
    g_wrong_parent := He.glo_ok X G (D.fact 4 (f := .glo "wrong_parent") rfl)
    g_loads_of := He.glo_ok X G (D.fact 5 (f := .glo "loads_of") rfl)
    g_chain_lengths := He.glo_ok X G (D.fact 6 (f := .glo "chain_lengths") rfl)
    g_part_loads := He.glo_ok X G (D.fact 7 (f := .glo "part_loads") rfl)
    g_judge_layout := He.glo_ok X G (D.fact 8 (f := .glo "judge_layout") rfl)
    g__law_source := He.glo_ok X G (D.fact 9 (f := .glo "_law_source") rfl)
    g__law_pick := He.glo_ok X G (D.fact 10 (f := .glo "_law_pick") rfl)
    g__law_shuffled := He.glo_ok X G (D.fact 11 (f := .glo "_law_shuffled") rfl)
    g__law_same := He.glo_ok X G (D.fact 12 (f := .glo "_law_same") rfl)
    g__law_copied := He.glo_ok X G (D.fact 13 (f := .glo "_law_copied") rfl)
    g__law_fault := He.glo_ok X G (D.fact 14 (f := .glo "_law_fault") rfl)
    g__law_reach := He.glo_ok X G (D.fact 15 (f := .glo "_law_reach") rfl)
    g__law_layout := He.glo_ok X G (D.fact 16 (f := .glo "_law_layout") rfl)
    g__law_f_right := He.glo_ok X G (D.fact 17 (f := .glo "_law_f_right") rfl)
    g__law_f_chain := He.glo_ok X G (D.fact 18 (f := .glo "_law_f_chain") rfl)
    g__law_f_loads := He.glo_ok X G (D.fact 19 (f := .glo "_law_f_loads") rfl)
    g__law_f_fault := He.glo_ok X G (D.fact 20 (f := .glo "_law_f_fault") rfl)
    g__law_f_judged := He.glo_ok X G (D.fact 21 (f := .glo "_law_f_judged") rfl)
    g__law_f_asked := He.glo_ok X G (D.fact 22 (f := .glo "_law_f_asked") rfl)
    g__law_f_agree := He.glo_ok X G (D.fact 23 (f := .glo "_law_f_agree") rfl)
    g__law_f_hung := He.glo_ok X G (D.fact 24 (f := .glo "_law_f_hung") rfl)
    g__law_f_spoilt := He.glo_ok X G (D.fact 25 (f := .glo "_law_f_spoilt") rfl)
    g_law := He.glo_ok X G (D.fact 26 (f := .glo "law") rfl)
    g_TooMany := He.glo_ok X G (D.fact 27 (f := .glo "TooMany") rfl)
    g_BadText := He.glo_ok X G (D.fact 28 (f := .glo "BadText") rfl)
    g_BadFormat := He.glo_ok X G (D.fact 29 (f := .glo "BadFormat") rfl)
    g_BadValue := He.glo_ok X G (D.fact 30 (f := .glo "BadValue") rfl)
    g_BadShape := He.glo_ok X G (D.fact 31 (f := .glo "BadShape") rfl)
    g_BadRow := He.glo_ok X G (D.fact 32 (f := .glo "BadRow") rfl)
    g_BadSet := He.glo_ok X G (D.fact 33 (f := .glo "BadSet") rfl)
    g_BadReader := He.glo_ok X G (D.fact 34 (f := .glo "BadReader") rfl)
    g_BadLayout := He.glo_ok X G (D.fact 35 (f := .glo "BadLayout") rfl)
    g_BadCheck := He.glo_ok X G (D.fact 36 (f := .glo "BadCheck") rfl)
    g_BadCode := He.glo_ok X G (D.fact 37 (f := .glo "BadCode") rfl)
    g_BadFeed := He.glo_ok X G (D.fact 38 (f := .glo "BadFeed") rfl)
    g_BadEdit := He.glo_ok X G (D.fact 39 (f := .glo "BadEdit") rfl)
    g_BadPatch := He.glo_ok X G (D.fact 40 (f := .glo "BadPatch") rfl)
    g_BadPaper := He.glo_ok X G (D.fact 41 (f := .glo "BadPaper") rfl)
    g_BadDeed := He.glo_ok X G (D.fact 42 (f := .glo "BadDeed") rfl)
    g_OutsideError := He.glo_ok X G (D.fact 43 (f := .glo "OutsideError") rfl)
    g_LIMITS := He.glo_ok X G (D.fact 44 (f := .glo "LIMITS") rfl)
    f_ValueError := He.free_ok X G (D.fact 45 (f := .free "ValueError") rfl)
    f_range := He.free_ok X G (D.fact 46 (f := .free "range") rfl)
    f_list := He.free_ok X G (D.fact 47 (f := .free "list") rfl)
    f_isinstance := He.free_ok X G (D.fact 48 (f := .free "isinstance") rfl)
    f_dict := He.free_ok X G (D.fact 49 (f := .free "dict") rfl)
    f_tuple := He.free_ok X G (D.fact 50 (f := .free "tuple") rfl)
    f_min := He.free_ok X G (D.fact 51 (f := .free "min") rfl)
    f_max := He.free_ok X G (D.fact 52 (f := .free "max") rfl)
    f_len := He.free_ok X G (D.fact 53 (f := .free "len") rfl)
    f_int := He.free_ok X G (D.fact 54 (f := .free "int") rfl)
    f_abs := He.free_ok X G (D.fact 55 (f := .free "abs") rfl)
    f_all := He.free_ok X G (D.fact 56 (f := .free "all") rfl)
    f_bool := He.free_ok X G (D.fact 57 (f := .free "bool") rfl)
    f_str := He.free_ok X G (D.fact 58 (f := .free "str") rfl)
    f_sum := He.free_ok X G (D.fact 59 (f := .free "sum") rfl)
    f_sorted := He.free_ok X G (D.fact 60 (f := .free "sorted") rfl)
    d_bound := D.def_ 0 rfl
    d_check_parts := D.def_ 1 rfl
    d_right_parents := D.def_ 2 rfl
    d_chains_to := D.def_ 3 rfl
    d_wrong_parent := D.def_ 4 rfl
    d_loads_of := D.def_ 5 rfl
    d_chain_lengths := D.def_ 6 rfl
    d_part_loads := D.def_ 7 rfl
    d_judge_layout := D.def_ 8 rfl
    d__law_source := D.def_ 9 rfl
    d__law_pick := D.def_ 10 rfl
    d__law_shuffled := D.def_ 11 rfl
    d__law_same := D.def_ 12 rfl
    d__law_copied := D.def_ 13 rfl
    d__law_fault := D.def_ 14 rfl
    d__law_reach := D.def_ 15 rfl
    d__law_layout := D.def_ 16 rfl
    d__law_f_right := D.def_ 17 rfl
    d__law_f_chain := D.def_ 18 rfl
    d__law_f_loads := D.def_ 19 rfl
    d__law_f_fault := D.def_ 20 rfl
    d__law_f_judged := D.def_ 21 rfl
    d__law_f_asked := D.def_ 22 rfl
    d__law_f_agree := D.def_ 23 rfl
    d__law_f_hung := D.def_ 24 rfl
    d__law_f_spoilt := D.def_ 25 rfl
    d_law := D.def_ 26 rfl
    d_TooMany := D.def_ 27 rfl
    d_BadText := D.def_ 28 rfl
    d_BadFormat := D.def_ 29 rfl
    d_BadValue := D.def_ 30 rfl
    d_BadShape := D.def_ 31 rfl
    d_BadRow := D.def_ 32 rfl
    d_BadSet := D.def_ 33 rfl
    d_BadReader := D.def_ 34 rfl
    d_BadLayout := D.def_ 35 rfl
    d_BadCheck := D.def_ 36 rfl
    d_BadCode := D.def_ 37 rfl
    d_BadFeed := D.def_ 38 rfl
    d_BadEdit := D.def_ 39 rfl
    d_BadPatch := D.def_ 40 rfl
    d_BadPaper := D.def_ 41 rfl
    d_BadDeed := D.def_ 42 rfl
    kits := kitsB_ok (E 0 _ rfl)
    e_TooMany := errB_ok (E 1 _ rfl)
    e_BadText := errB_ok (E 2 _ rfl)
    e_BadFormat := errB_ok (E 3 _ rfl)
    e_BadValue := errB_ok (E 4 _ rfl)
    e_BadShape := errB_ok (E 5 _ rfl)
    e_BadRow := errB_ok (E 6 _ rfl)
    e_BadSet := errB_ok (E 7 _ rfl)
    e_BadReader := errB_ok (E 8 _ rfl)
    e_BadLayout := errB_ok (E 9 _ rfl)
    e_BadCheck := errB_ok (E 10 _ rfl)
    e_BadCode := errB_ok (E 11 _ rfl)
    e_BadFeed := errB_ok (E 12 _ rfl)
    e_BadEdit := errB_ok (E 13 _ rfl)
    e_BadPatch := errB_ok (E 14 _ rfl)
    e_BadPaper := errB_ok (E 15 _ rfl)
    e_BadDeed := errB_ok (E 16 _ rfl)
    t_LIMITS := fun k i hq => by
      obtain ⟨es, n, KD⟩ := c.t.tab 0 rfl
      exact tabB_ok (E 17 _ rfl) KD hq }
end K27
open PySem PySem.W PySem.Calls PyProof.Rows in
theorem K27.law_of (k : Nat) (hk : L2.Room k callerA)
    (F : ∀ (w : World) (K : Frag) (mg : PySem.Str → Option Value) (base : Heap), K.In base → base.Ns mainGlobals mg → K27.Txt w K mg → ∀ fd, L2.FunD K "law" "law" (L2.defArgs K27.s_law) (L2.defBody K27.s_law) (L2.defScope K27.s_law) [] [] (He.ga K "law") fd →
      L2.FnOk (PySem.Challenge.rw_toldoutside_k27_judged_layouts).prog w K mg base (L2N.CX (PySem.Challenge.rw_toldoutside_k27_judged_layouts).prog w) k (He.ga K "law") fd ["script"] (L3.spLaw K)) : PySem.Challenge.rw_toldoutside_k27_judged_layouts.Holds := by
  w_on; o_law
  refine HandSHeadRun.head_any (r := OpenLaw.row PySem.Challenge.rw_toldoutside_k27_judged_layouts) (q := view (OpenLaw.row PySem.Challenge.rw_toldoutside_k27_judged_layouts).prog [48]) (H := K27.hk) (ob := K27.ob) (M := 6000) (loose := K27.nms) (d := HandSHeadRun.topDef (OpenLaw.row PySem.Challenge.rw_toldoutside_k27_judged_layouts).prog 48) (kwd := []) K27.ob_eq
    (by kernel_rfl) (fun s => by kernel_rfl) K27.run (by kernel_rfl) (by kernel_rfl) (by kernel_rfl) (by rfl) (by first | assumption | decide +kernel) (by decide +kernel) ⟨rfl, rfl, rfl, rfl, rfl, by decide +kernel⟩ ?hw ?hc
  case hw => w_witness2
  case hc =>
    refine L3.walk_law (l := PySem.Challenge.rw_toldoutside_k27_judged_layouts) (k := k) rfl (by kernel_rfl) hk ?F
    intro w mg fa h Y G hmg0
    obtain ⟨K, KX, c⟩ := Y
    have hmg : mg ("law" : PySem.Str) = some (.ref fa) := by
      have e : (HandSHeadRun.topDef (OpenLaw.row PySem.Challenge.rw_toldoutside_k27_judged_layouts).prog 48).name = ("law" : PySem.Str) := by kernel_rfl
      rw [← e]
      exact hmg0
    have T := K27.txt KX G c
    have e := hmg.symm.trans T.g_law
    cases e
    obtain ⟨fd, D⟩ := T.d_law
    have b := L2.FunD.bindsA (ps := ["script"]) D fun _ _ _ _ _ _ us hl => match us, hl with | [_], _ => rfl
    exact ⟨K, fd, KX, fun s v => b s [v] rfl, fun base XB GB => F w K mg base XB GB T fd D⟩
set_option maxRecDepth 100000
set_option maxHeartbeats 4000000
namespace K27
open PySem PySem.Spec PyProof.Rows L2 L3
local macro_rules | `(tactic| walk_at "s1") => `(tactic| first
  | with_reducible refine r_seq ?_
  | with_reducible refine r_asgN ?_
  | with_reducible refine r_ret ?_
  | with_reducible refine r_next ?_
  | ((with_reducible refine' r_var ?hv ?_); (case hv => exact rfl))
  | with_reducible refine r_c ?_
  | with_reducible refine r_op ?_
  | with_reducible refine r_cons ?_
  | with_reducible refine r_nil ?_
  | with_reducible refine r_plusI ?_
  | with_reducible refine r_I0 ?_
  | with_reducible refine r_test ?_
  | with_reducible refine r_bl ?_
  | with_reducible refine r_ifS ?_
  | with_reducible refine r_cb ?_
  | with_reducible refine r_callS ?_
  | with_reducible refine r_and ?_
  | with_reducible refine r_or ?_
  | with_reducible refine r_not ?_
  | with_reducible refine r_B ?_
  | ((with_reducible refine' r_aug ?hv ?_); (case hv => exact rfl))
  | with_reducible refine r_augS ?_
  | with_reducible refine r_ipI ?_
  | with_reducible refine r_asg ?_
  | with_reducible refine r_sub ?_
  | with_reducible refine r_brk ?_
  | with_reducible refine r_isN1 ?_
  | with_reducible refine r_notN1 ?_
  | with_reducible refine r_intI ?_
  | with_reducible refine r_abs ?_
  | with_reducible refine r_min ?_
  | with_reducible refine r_max ?_
  | ((with_reducible refine' r_mod ?hz ?_); (case hz => omega))
  | ((with_reducible refine' r_pow ?hz ?_); (case hz => exact ⟨by decide, by decide, by decide⟩))
  | ((with_reducible refine' r_rg1 ?hz ?_); (case hz => omega))
  | ((with_reducible refine' r_rg2 ?hz ?_); (case hz => omega))
  | ((with_reducible refine' r_newL ?hz ?_); (case hz => exact Nat.le_of_ble_eq_true rfl))
  | ((with_reducible refine' r_newT ?hz ?_); (case hz => exact Nat.le_of_ble_eq_true rfl))
  | with_reducible refine r_for ?_
  | with_reducible refine r_lc ?_
  | with_reducible refine r_iR1 ?_
  | with_reducible refine r_iR2 ?_
  | with_reducible refine r_iL ?_
  | with_reducible refine r_iT ?_
  | with_reducible refine r_gname ?_
  | with_reducible refine r_gcons ?_
  | with_reducible refine r_gnil ?_
  | with_reducible refine r_yes ?_
  | with_reducible refine r_mkO ?_
  | with_reducible refine r_cont ?_
  | with_reducible refine r_drop ?_
  | with_reducible refine r_retN ?_
  | with_reducible refine r_ifC ?_
  | with_reducible refine r_ifI ?_
  | with_reducible refine r_if ?_
  | with_reducible refine r_un ?_
  | with_reducible refine r_neg ?_
  | with_reducible refine r_andV ?_
  | with_reducible refine r_orV ?_
  | with_reducible refine r_notV ?_
  | with_reducible refine r_tup ?_
  | with_reducible refine r_lst ?_
  | with_reducible refine r_bm ?_
  | with_reducible refine r_bm0 ?_
  | with_reducible refine r_sl ?_
  | with_reducible refine r_chain ?_
  | with_reducible refine r_listDn ?_
  | with_reducible refine r_listRg2 ?_
  | with_reducible refine r_revL ?_
  | with_reducible refine r_noPart ?_
  | with_reducible refine r_part ?_
  | with_reducible refine r_int ?_
  | ((with_reducible refine' r_sameS ?hs ?_); (case hs => exact rfl))
  | ((with_reducible refine' r_otherS ?hs ?_); (case hs => exact rfl))
  | with_reducible refine ite_t ?_
  | with_reducible refine ite_f ?_
  | with_reducible refine ite_nt ?_
  | with_reducible refine ite_nf ?_)
local macro_rules | `(tactic| walk_at "st") => `(tactic| repeat (walk_at "s1"))

section
variable {P : Program} {w : World} {K : PySem.W.Frag} {mg : Str → Option Value} {base : Heap}
theorem sci_TooMany : FnScope ["self", "what"] ["self", "what"] (defScope i_TooMany) := ⟨rfl, rfl, rfl, by decide +kernel, rfl, by decide +kernel, by decide +kernel⟩
theorem ci_TooMany (T : Txt w K mg) : ErrI P w K mg base "TooMany" ["self", "what"] (spI1 (He.ga K "TooMany") "what") := by
  refine errI_of T.d_TooMany sci_TooMany (fun _ _ _ _ _ _ _ us hl => match us, hl with | [_, _], _ => rfl) (fun vs H Q E h => by obtain ⟨a, v0, rfl, _⟩ := h; rfl) (fun cdv A outer s H vs Q E hr h => ?_)
  obtain ⟨a, v0, rfl, ha, k⟩ := h
  refine ⟨_, pss_one (ps_ost (pv 0) (pv 1)), ?_⟩
  exact r_ost1 T.e_TooMany.o (T.e_TooMany.no _ (by simp)) ha rfl rfl k
theorem sci_BadLayout : FnScope ["self", "what"] ["self", "what"] (defScope i_BadLayout) := ⟨rfl, rfl, rfl, by decide +kernel, rfl, by decide +kernel, by decide +kernel⟩
theorem ci_BadLayout (T : Txt w K mg) : ErrI P w K mg base "BadLayout" ["self", "what"] (spI1 (He.ga K "BadLayout") "what") := by
  refine errI_of T.d_BadLayout sci_BadLayout (fun _ _ _ _ _ _ _ us hl => match us, hl with | [_, _], _ => rfl) (fun vs H Q E h => by obtain ⟨a, v0, rfl, _⟩ := h; rfl) (fun cdv A outer s H vs Q E hr h => ?_)
  obtain ⟨a, v0, rfl, ha, k⟩ := h
  refine ⟨_, pss_one (ps_ost (pv 0) (pv 1)), ?_⟩
  exact r_ost1 T.e_BadLayout.o (T.e_BadLayout.no _ (by simp)) ha rfl rfl k
/-! ### the bounds -/
def spBound (K : PySem.W.Frag) : Sp := fun vs H Q E => ∃ (what : Str) (lim n : Int), vs = [.str what, .int n] ∧ (what, lim) ∈ kv_LIMITS ∧
  (lim < n → ∀ d H', H d = none → Ext H H' → H' d = some (.xd [("what", .str what)]) → E (.ref (He.ga K "TooMany")) (some d) H') ∧ (¬ lim < n → Q .non H)
theorem sc_bound : FnScope ["what", "number"] ["what", "number"] (defScope s_bound) := ⟨rfl, rfl, rfl, by decide +kernel, rfl, by decide +kernel, by decide +kernel⟩
theorem ok_bound (T : Txt w K mg) : CalG P w K mg base 4 "bound" ["what", "number"] (spBound K) := by
  have c_TooMany : ErrI P w K mg base "TooMany" ["self", "what"] _ := ci_TooMany T
  refine calG_of T.g_bound T.d_bound sc_bound (fun _ _ _ _ _ _ _ us hl => match us, hl with | [_, _], _ => rfl) (fun vs H Q E h => by obtain ⟨c, k, n, rfl, _⟩ := h; rfl) (fun cdv A outer s H vs Q E hr h => ?_)
  have nd := sc_bound.nd
  have hu := hu64 hr
  obtain ⟨what, lim, n, rfl, hm, hb, hg⟩ := h
  refine ⟨_, (pss_one (ps_if (pt_cmpR op_gt (pv 1) (pe_ix (kdictK (K := K)) (pe_gl T.g_LIMITS) (pv 0) (fun _ _ => rfl)) (nomark _)) (pss_one (L2N.ps_raise rfl (L2N.takes_of rfl rfl rfl rfl) (pmk_errI T.e_TooMany c_TooMany hr (by decide) T.g_TooMany (pa_cons (pv 0) pa_nil)))) pss_nil)), ?_⟩
  walk_at "st"
  refine ⟨_, _, _, rfl, rfl, T.t_LIMITS _ _ hm, ?_⟩
  walk_at "st"
  refine ite_d (fun c => ?_) (fun c => ?_)
  · walk_at "st"
    exact r_mk1 (hb c)
  · walk_at "st"
    exact hg c

theorem half_eq (j i : Nat) : (((Del.D j i : Nat) : Int) - 1) / 2 = ((Lay.hh j i : Nat) : Int) := by
  have := Lay.hh_eq j i
  omega

/-! ### one task -/
/-- a task on the heap: mk is a list or a tuple -/
def TkAt (mk : List V → HO) (H : Hp) (S : List Addr) (x : V) (t : Tk) : Prop := ∃ a jl, x = .ref a ∧ H a = some (mk [.int t.root, .ref jl, .int t.d, .int t.r]) ∧ H jl = some (.lst (js t.root t.s t.m)) ∧ a ∉ S ∧ jl ∉ S
theorem TkAt.ext {mk : List V → HO} {H H' : Hp} {S : List Addr} {x : V} {t : Tk} (h : TkAt mk H S x t) (e : Ext H H') : TkAt mk H' S x t := by
  obtain ⟨a, jl, rfl, h1, h2, h3, h4⟩ := h
  exact ⟨a, jl, rfl, e _ _ h1, e _ _ h2, h3, h4⟩
theorem TkAt.but {mk : List V → HO} {H H' : Hp} {S : List Addr} {x : V} {t : Tk} {p : Addr} (h : TkAt mk H S x t) (hp : p ∈ S) (e : But p H H') : TkAt mk H' S x t := by
  obtain ⟨a, jl, rfl, h1, h2, h3, h4⟩ := h
  exact ⟨a, jl, rfl, e _ _ (fun z => h3 (z ▸ hp)) h1, e _ _ (fun z => h4 (z ▸ hp)) h2, h3, h4⟩
/-- a new one -/
def TkNew (mk : List V → HO) (H H' : Hp) (x : V) (t : Tk) : Prop := ∃ a jl, x = .ref a ∧ H a = none ∧ H jl = none ∧ H' a = some (mk [.int t.root, .ref jl, .int t.d, .int t.r]) ∧ H' jl = some (.lst (js t.root t.s t.m))
theorem TkNew.at_ {mk : List V → HO} {H H' : Hp} {S : List Addr} {x : V} {t : Tk} (h : TkNew mk H H' x t) (hS : ∀ p ∈ S, H p ≠ none) : TkAt mk H' S x t := by
  obtain ⟨a, jl, rfl, h1, h2, h3, h4⟩ := h
  exact ⟨a, jl, rfl, h3, h4, fun z => hS a z h1, fun z => hS jl z h2⟩
theorem TkNew.ext {mk : List V → HO} {H H' H2 : Hp} {x : V} {t : Tk} (h : TkNew mk H H' x t) (e : Ext H' H2) : TkNew mk H H2 x t := by
  obtain ⟨a, jl, rfl, h1, h2, h3, h4⟩ := h
  exact ⟨a, jl, rfl, h1, h2, e _ _ h3, e _ _ h4⟩
theorem at_between (d r m : Nat) (hm : 1 ≤ m) : ((m : Int) - 1 - min ((m : Int) - 1) ((Lay.hh (d - 1) r : Nat) : Int)) = ((Lay.sAt d r m : Nat) : Int) := by
  unfold Lay.sAt
  omega
theorem at_near (d r m : Nat) : min ((Lay.sAt d r m : Nat) : Int) ((Lay.hh d (r - 1) : Nat) : Int) = ((Lay.sNr d r m : Nat) : Int) := by
  unfold Lay.sNr
  omega

/-! ### the layout of the program -/
theorem rg_js (k : Nat) : rgV 1 ((k : Int) + 1) = js 0 1 k := by
  unfold rgV js
  rw [show ((k : Int) + 1 - 1).toNat = k by omega]
  refine List.map_congr_left fun i _ => ?_
  congr 1
  omega
theorem dn_js (n k : Nat) : dnV ((n : Int) - 1) (k : Int) = js n (-1) (n - 1 - k) := by
  unfold dnV js
  rw [show ((n : Int) - 1 - (k : Int)).toNat = n - 1 - k by omega]
  refine List.map_congr_left fun i _ => ?_
  congr 1
  omega
theorem flat_len (k : Nat) (v : V) : (List.replicate k [v]).flatten.length = k := by simp
/-- the tasks that wait, as pairs: the value, the task -/
def Wt (mk : List V → HO) (par : Int → Int) (lev : Int → Nat) (n d r : Nat) (S : List Addr) (H : Hp) (ps : List (V × Tk)) : Prop := ∀ p ∈ ps, TkAt mk H S p.1 p.2 ∧ TkOk par lev n d r p.2
theorem Wt.ext {mk : List V → HO} {par : Int → Int} {lev : Int → Nat} {n d r : Nat} {S : List Addr} {H H' : Hp} {ps : List (V × Tk)} (h : Wt mk par lev n d r S H ps) (e : Ext H H') : Wt mk par lev n d r S H' ps := fun p hp => ⟨(h p hp).1.ext e, (h p hp).2⟩
theorem Wt.but {mk : List V → HO} {par : Int → Int} {lev : Int → Nat} {n d r : Nat} {S : List Addr} {H H' : Hp} {ps : List (V × Tk)} {q : Addr} (h : Wt mk par lev n d r S H ps) (hq : q ∈ S) (e : But q H H') : Wt mk par lev n d r S H' ps := fun p hp => ⟨(h p hp).1.but hq e, (h p hp).2⟩
theorem mu_step {par : Int → Int} {lev : Int → Nat} {n d r : Nat} {t : Tk} (S : TkStep par lev n d r t) (W : List Tk) : tkMu (W ++ [t.tC, t.tA, t.tB]) < tkMu (W ++ [t]) ∧ tkMu (W ++ [t.tA, t.tB, t.tC]) < tkMu (W ++ [t]) := by
  have h1 := S.ha
  have h2 := S.hn
  unfold tkMu
  simp only [List.map_append, List.sum_append, List.map_cons, List.map_nil, List.sum_cons, List.sum_nil]
  have eA : t.tA.m = t.nr := rfl
  have eB : t.tB.m = t.at_ - t.nr := rfl
  have eC : t.tC.m = t.m - 1 - t.at_ := rfl
  rw [eA, eB, eC]
  omega
theorem mu_none (W : List Tk) (t : Tk) : tkMu W < tkMu (W ++ [t]) := by
  unfold tkMu
  simp only [List.map_append, List.sum_append, List.map_cons, List.map_nil, List.sum_cons, List.sum_nil]
  omega
theorem fresh_ne {H : Hp} {S : List Addr} {a : Addr} (hS : ∀ p ∈ S, H p ≠ none) (h : H a = none) : a ∉ S := fun z => hS a z h

/-! ### chains, with what is known already -/
noncomputable def clL (nx : Int → Int) (n : Nat) : List V := (List.range (n + 1)).map fun (j : Nat) => V.int (Lay.cl nx n j)
theorem clL_at {nx : Int → Int} {n j : Nat} (h : j ≤ n) : (clL nx n)[j]? = some (V.int (Lay.cl nx n j)) := by
  unfold clL
  rw [List.getElem?_map, List.getElem?_range (by omega)]
  rfl
/-- the parents as a list tells them -/
def Par (nx : Int → Int) (n : Nat) (xs : List V) : Prop := ∀ j : Nat, 1 ≤ j → j < n → xs[j - 1]? = some (.int (nx j)) ∧ 0 ≤ nx j ∧ nx j ≤ n
def Fok (nx : Int → Int) (n i : Nat) (F : List V) : Prop := F.length = n + 1 ∧ ∀ a : Nat, a ≤ n → (F[a]? = some .non ∧ i < a ∧ a < n) ∨ F[a]? = some (.int (Lay.cl nx n a))
/-- a way of joints not known before -/
structure Way (nx : Int → Int) (n i : Nat) (F : List V) (w : Nat → Nat) (t : Nat) : Prop where
  w0 : w 0 = 1 + i
  st : ∀ k, k < t → 1 ≤ w k ∧ w k < n ∧ ((w (k + 1) : Nat) : Int) = nx (w k) ∧ F[w k]? = some .non
  inj : ∀ a b, a < t → b < t → w a = w b → a = b
  le : w t ≤ n
theorem Way.t_lt {nx : Int → Int} {n i t : Nat} {F : List V} {w : Nat → Nat} (h : Way nx n i F w t) (hn : 1 ≤ n) : t < n := by
  have h1 := Lay.nodup_len (n - 1) ((List.range t).map fun k => w k - 1) (Lay.nd_map (fun x hx y hy e => by
    have a := h.st x (List.mem_range.mp hx)
    have b := h.st y (List.mem_range.mp hy)
    exact h.inj x y (List.mem_range.mp hx) (List.mem_range.mp hy) (by omega)) List.nodup_range) (fun x hx => by
    obtain ⟨k, hk, rfl⟩ := List.mem_map.mp hx
    have a := h.st k (List.mem_range.mp hk)
    omega)
  rw [List.length_map, List.length_range] at h1
  omega
theorem Way.more {nx : Int → Int} {n i t : Nat} {F : List V} {w : Nat → Nat} (h : Way nx n i F w t) {b : Nat} (h1 : 1 ≤ w t) (h2 : w t < n) (h3 : F[w t]? = some .non) (h4 : ∀ k, k < t → w k ≠ w t) (hb : (b : Int) = nx (w t)) (hb2 : b ≤ n) :
    ∃ w', Way nx n i F w' (t + 1) ∧ w' (t + 1) = b ∧ ∀ k, k ≤ t → w' k = w k := by
  have e1 : (fun k => if k = t + 1 then b else w k) (t + 1) = b := if_pos rfl
  have e2 : ∀ k, k ≤ t → (fun k => if k = t + 1 then b else w k) k = w k := fun k hk => if_neg (by omega)
  generalize (fun k => if k = t + 1 then b else w k) = w' at e1 e2
  refine ⟨w', ⟨by rw [e2 0 (Nat.zero_le _)]; exact h.w0, fun k hk => ?_, fun a c ha hc e => ?_, by rw [e1]; exact hb2⟩, e1, e2⟩
  · rw [e2 k (by omega)]
    by_cases c : k = t
    · subst c
      rw [e1]
      exact ⟨h1, h2, hb, h3⟩
    · rw [e2 (k + 1) (by omega)]
      exact h.st k (by omega)
  · rw [e2 a (by omega), e2 c (by omega)] at e
    by_cases c1 : a = t
    · by_cases c2 : c = t
      · omega
      · rw [c1] at e
        exact absurd e.symm (h4 c (by omega))
    · by_cases c2 : c = t
      · rw [c2] at e
        exact absurd e (h4 a (by omega))
      · exact h.inj a c (by omega) (by omega) e
theorem Way.ring {nx : Int → Int} {n i t k : Nat} {F : List V} {w : Nat → Nat} (h : Way nx n i F w t) (hk : k < t) (e : w k = w t) : Lay.cl nx n (w t) = -1 := by
  have := Lay.ring_no (nx := nx) (n := n) (w := fun m => ((w (k + m) : Nat) : Int)) (m := t - k) (by omega) (fun m hm => by
    obtain ⟨a, b, c, _⟩ := h.st (k + m) (by omega)
    exact ⟨by omega, by omega, c⟩) (by
    show ((w (k + (t - k)) : Nat) : Int) = ((w (k + 0) : Nat) : Int)
    rw [show k + (t - k) = t by omega, Nat.add_zero, e])
  rw [Nat.add_zero] at this
  rw [← e]
  exact this
def spChains (K : PySem.W.Frag) : Sp := fun vs H Q _ => ∃ (n : Nat) (p : Addr) (xs : List V) (nx : Int → Int), vs = [.int n, .ref p] ∧ (1 ≤ n ∧ n ≤ 10000) ∧ SqL K H p xs ∧ Par nx n xs ∧ ∀ q H', H q = none → Ext H H' → H' q = some (.lst (clL nx n)) → Q (.ref q) H'
theorem sc_chains_to : FnScope ["n", "parents", "found", "joint", "way", "at", "length"] ["n", "parents"] (defScope s_chains_to) := ⟨rfl, rfl, rfl, by decide +kernel, rfl, by decide +kernel, by decide +kernel⟩
theorem ok_chains_to (T : Txt w K mg) : CalG P w K mg base 2 "chains_to" ["n", "parents"] (spChains K) := by
  refine calG_of T.g_chains_to T.d_chains_to sc_chains_to (fun _ _ _ _ _ _ _ us hl => match us, hl with | [_, _], _ => rfl) (fun vs H Q E h => by obtain ⟨_, _, _, _, rfl, _⟩ := h; rfl) (fun cdv A outer s H vs Q E hr h => ?_)
  have nd := sc_chains_to.nd
  have hu := hu64 hr
  obtain ⟨n, p, xs, nx, rfl, ⟨hn1, hn2⟩, hp, hpar, k⟩ := h
  refine ⟨_, (pss_cons (ps_set (i := 2) nd rfl (Or.inl rfl) (pe_op (plusK (K := K)) (pe_op (plusK (K := K)) (pe_lst (pa_cons pe_int pa_nil)) (pe_op op_timesB (pe_lst (pa_cons pe_non pa_nil)) (pe_op op_sub (pv 0) pe_int))) (pe_lst (pa_cons pe_int pa_nil))))
        (pss_cons (ps_for (passes_of rfl) rfl (pi_range2 (by rfl) T.f_range (pa_cons pe_int (pa_cons (pv 0) pa_nil))) (pg_name (i := 3) nd rfl (Or.inl rfl)) (pss_cons (ps_set (i := 4) nd rfl (Or.inl rfl) (pe_lst pa_nil))
        (pss_cons (ps_set (i := 5) nd rfl (Or.inl rfl) (pv 3))
        (C8.pss_cut (ps_while (passes_of rfl) (pt_cmpR op_isN1 (pe_ix (ixK (K := K)) (pv 2) (pv 5) (fun _ _ => rfl)) pe_non (nomark _)) (pss_cons (ps_asg (pe_un un_neg pe_int) (pg_sub (pv 2) (pv 5) set_list))
        (pss_cons (ps_expr (peBM (K := K) (pe_bm PySem.F.plainAttrs_list PySem.F.slot_list_append PySem.F.type_list_append mt_append (pv 4) (pa_cons (pv 5) pa_nil))))
        (pss_one (ps_set (i := 5) nd rfl (Or.inl rfl) (pe_ix (ixK (K := K)) (pv 1) (pe_op op_sub (pv 5) pe_int) (fun _ _ => rfl)))))))
        (pss_cons (ps_set (i := 6) nd rfl (Or.inl rfl) (pe_ix (ixK (K := K)) (pv 2) (pv 5) (fun _ _ => rfl)))
        (pss_one (ps_while (passes_of rfl) (pt_cmpR op_gt (pe_callB (lenK (K := K)) (by rfl) T.f_len boot_len (pa_cons (pv 4) pa_nil)) pe_int (nomark _)) (pss_cons (ps_if (pt_cmpR op_ge (pv 6) pe_int (nomark _)) (pss_one (ps_aug (i := 6) nd rfl (Or.inl rfl) pe_int ip_add)) pss_nil)
        (pss_one (ps_asg (pv 6) (pg_sub (pv 2) (peBM0 (K := K) (pe_bm0 PySem.F.plainAttrs_list PySem.F.slot_list_pop PySem.F.type_list_pop mt_pop (pv 4))) set_list)))))))))))
        (pss_one (ps_ret (pv 2))))), ?_⟩
  walk_at "st"
  intro a1 H1 ha1 e1 h1
  walk_at "st"
  intro a2 H2 ha2 e2 h2
  walk_at "st"
  refine r_repL h2 (by omega) (by omega) (by simp; omega) (fun a3 H3 ha3 e3 h3 => ?_)
  walk_at "st"
  refine r_catL ((e2.trans e3) _ _ h1) h3 (by rw [flat_len]; show 1 + _ ≤ _; omega) (fun a4 H4 ha4 e4 h4 => ?_)
  walk_at "st"
  intro a5 H5 ha5 e5 h5
  walk_at "st"
  refine r_catL (e5 _ _ h4) h5 (by rw [List.length_append, flat_len]; show 1 + _ + 1 ≤ _; omega) (fun f H6 hf e6 h6 => ?_)
  have e16 := e1.trans (e2.trans (e3.trans (e4.trans (e5.trans e6))))
  have hfH : H f = none := (e1.trans (e2.trans (e3.trans (e4.trans e5)))).none hf
  walk_at "st"
  rw [show ((n : Int) - 1).toNat = n - 1 by omega] at *
  have F0 : Fok nx n 0 ([V.int 0] ++ (List.replicate (n - 1) [V.non]).flatten ++ [V.int 0]) := by
    refine ⟨by rw [List.length_append, List.length_append, flat_len]; show 1 + (n - 1) + 1 = _; omega, fun a ha => ?_⟩
    by_cases c0 : a = 0
    · subst c0
      exact .inr (by show some (V.int 0) = some (V.int (Lay.cl nx n ((0 : Nat) : Int))); rw [show ((0 : Nat) : Int) = 0 from rfl, Lay.cl_0])
    by_cases c1 : a = n
    · subst c1
      right
      rw [List.getElem?_append_right (by rw [List.length_append, flat_len]; show 1 + (a - 1) ≤ a; omega), List.length_append, flat_len, Lay.cl_n]
      show [V.int 0][a - (1 + (a - 1))]? = _
      rw [show a - (1 + (a - 1)) = 0 by omega]
      rfl
    · left
      refine ⟨?_, by omega, by omega⟩
      rw [List.getElem?_append_left (by rw [List.length_append, flat_len]; show a < 1 + (n - 1); omega), List.getElem?_append_right (by show 1 ≤ a; omega), List.flatten_replicate_singleton, List.getElem?_replicate]
      exact if_pos (by show a - 1 < n - 1; omega)
  refine forW_range (fun i σ' H' => ∃ F v1 v2 v3 v4, σ' = [some (.int n), some (.ref p), some (.ref f), v1, v2, v3, v4] ∧ Ext H H' ∧ H' f = some (.lst F) ∧ Fok nx n i F) ⟨_, none, none, none, none, rfl, e16, h6, F0⟩ ?_ ?_
  · rintro i σ' H7 hi ⟨F, v1, v2, v3, v4, rfl, e7, h7, hF⟩
    walk_at "st"
    intro wy H8 hwy e8 h8
    walk_at "st"
    have hwH : H wy = none := e7.none hwy
    have nfw : f ≠ wy := ne_of_none h7 hwy
    refine r_cut (fun σ' H' => ∃ (w : Nat → Nat) (t : Nat) (F' : List V), σ' = [some (.int n), some (.ref p), some (.ref f), some (.int (1 + (i : Int))), some (.ref wy), some (.int (w t : Nat)), v4] ∧ Ext H H' ∧ H' wy = some (.lst ((List.range t).map fun k => V.int (w k : Nat))) ∧ H' f = some (.lst F') ∧ F'.length = n + 1 ∧
      Way nx n i F w t ∧ (∀ a, a ≤ n → (∃ k, k < t ∧ w k = a) ∨ F'[a]? = F[a]?) ∧ F'[w t]? = some (.int (Lay.cl nx n (w t)))) ?_ ?_
    · refine whileW (fun μ σ' H' => ∃ (w : Nat → Nat) (t : Nat) (F' : List V), μ = n - t ∧ σ' = [some (.int n), some (.ref p), some (.ref f), some (.int (1 + (i : Int))), some (.ref wy), some (.int (w t : Nat)), v4] ∧ Ext H H' ∧ H' wy = some (.lst ((List.range t).map fun k => V.int (w k : Nat))) ∧ H' f = some (.lst F') ∧ F'.length = n + 1 ∧
        Way nx n i F w t ∧ (∀ a, a ≤ n → ((∃ k, k < t ∧ w k = a) ∧ F'[a]? = some (.int (-1))) ∨ ((¬ ∃ k, k < t ∧ w k = a) ∧ F'[a]? = F[a]?))) n
        ⟨fun _ => 1 + i, 0, F, rfl, by rw [Int.natCast_add]; rfl, e7.trans e8, h8, e8 _ _ h7, hF.1, ⟨rfl, fun k hk => absurd hk (Nat.not_lt_zero _), fun a b ha => absurd ha (Nat.not_lt_zero _), by show 1 + i ≤ n; omega⟩, fun a ha => .inr ⟨fun ⟨k, hk, _⟩ => absurd hk (Nat.not_lt_zero _), rfl⟩⟩ ?_
      rintro μ σ' H9 ⟨w, t, F', rfl, rfl, e9, hw9, hf9, hl9, W, hF'⟩
      have hlt := W.t_lt hn1
      walk_at "st"
      have hle := W.le
      rcases hF' (w t) hle with ⟨⟨k1, hk1, ek1⟩, hv⟩ | ⟨hno, hv⟩
      · refine r_atL (sqL hf9) (atI_nat (j := w t) hv) ?_
        walk_at "st"
        refine ite_d (fun z => nomatch z) (fun _ => ?_)
        refine ⟨w, t, F', rfl, e9, hw9, hf9, hl9, W, fun a ha => (hF' a ha).imp (fun z => z.1) (fun z => z.2), ?_⟩
        rw [hv, W.ring hk1 ek1]
      · rcases hF.2 (w t) hle with ⟨hn', hi', hln⟩ | hn'
        · rw [hn'] at hv
          refine r_atL (sqL hf9) (atI_nat (j := w t) hv) ?_
          walk_at "st"
          refine ite_d (fun _ => r_N ?_) (fun z => absurd rfl z)
          obtain ⟨px, p0, p1⟩ := hpar (w t) (by omega) hln
          walk_at "st"
          refine r_setL (j := w t) hf9 rfl (by omega) (fun H10 h10 n10 => ?_)
          walk_at "st"
          have hw10 := stay n10 nfw.symm hw9
          refine ⟨.inl ⟨rfl, _, sqL hw10⟩, ?_⟩
          walk_at "st"
          refine r_app hw10 (by rw [List.length_map, List.length_range]; omega) (fun H11 h11 n11 => ?_)
          have e11 : Ext H H11 := mut_ext (mut_ext e9 hfH n10) hwH n11
          have hf11 := stay n11 nfw h10
          walk_at "st"
          refine r_atL (e11.l hp) (i := ((w t : Nat) : Int) - 1) (v := .int (nx (w t))) ?_ ?_
          · rw [show ((w t : Nat) : Int) - 1 = ((w t - 1 : Nat) : Int) by omega]
            exact atI_nat px
          have hb : ((nx (w t)).toNat : Int) = nx (w t) := Int.toNat_of_nonneg p0
          obtain ⟨w', W', ew1, ew2⟩ := W.more (by omega) hln hn' (fun k hk e => hno ⟨k, hk, e⟩) hb (by omega)
          refine ⟨n - (t + 1), by omega, w', t + 1, F'.set (w t) (.int (-1)), rfl, ?_, e11, ?_, hf11, by rw [List.length_set]; exact hl9, W', fun a ha => ?_⟩
          · rw [ew1, hb]
            rfl
          · rw [h11, List.range_succ, List.map_append]
            congr 2
            congr 1
            · refine List.map_congr_left fun k hk => ?_
              rw [ew2 k (by have := List.mem_range.mp hk; omega)]
            · show [V.int ((w t : Nat) : Int)] = [V.int ((w' t : Nat) : Int)]
              rw [ew2 t (Nat.le_refl _)]
          · by_cases c : a = w t
            · subst c
              refine .inl ⟨⟨t, by omega, ew2 t (Nat.le_refl _)⟩, List.getElem?_set_self (by omega)⟩
            · rw [List.getElem?_set_ne (fun e => c e.symm)]
              rcases hF' a ha with ⟨⟨k1, hk1, ek1⟩, hv⟩ | ⟨hno1, hv⟩
              · exact .inl ⟨⟨k1, by omega, by rw [ew2 k1 (by omega)]; exact ek1⟩, hv⟩
              · refine .inr ⟨fun ⟨k1, hk1, ek1⟩ => ?_, hv⟩
                rw [ew2 k1 (by omega)] at ek1
                by_cases c2 : k1 = t
                · exact c (by rw [← ek1, c2])
                · exact hno1 ⟨k1, by omega, ek1⟩
        · rw [hn'] at hv
          refine r_atL (sqL hf9) (atI_nat (j := w t) hv) ?_
          walk_at "st"
          refine ite_d (fun z => nomatch z) (fun _ => ?_)
          exact ⟨w, t, F', rfl, e9, hw9, hf9, hl9, W, fun a ha => (hF' a ha).imp (fun z => z.1) (fun z => z.2), hv⟩
    rintro σ' H9 ⟨w, t, F', rfl, e9, hw9, hf9, hl9, W, hF', hv⟩
    walk_at "st"
    refine r_atL (sqL hf9) (atI_nat (j := w t) hv) ?_
    walk_at "st"
    refine whileW (fun μ σ' H' => ∃ (m : Nat) (F2 : List V), μ = m ∧ m ≤ t ∧ σ' = [some (.int n), some (.ref p), some (.ref f), some (.int (1 + (i : Int))), some (.ref wy), some (.int (w t : Nat)), some (.int (Lay.cl nx n (w m)))] ∧ Ext H H' ∧ H' wy = some (.lst ((List.range m).map fun k => V.int (w k : Nat))) ∧ H' f = some (.lst F2) ∧ F2.length = n + 1 ∧
      (∀ a, a ≤ n → (∃ k, k < m ∧ w k = a) ∨ ((∃ k, k < t ∧ w k = a) ∧ F2[a]? = some (.int (Lay.cl nx n a))) ∨ ((¬ ∃ k, k < t ∧ w k = a) ∧ F2[a]? = F[a]?))) t
      ⟨t, F', rfl, Nat.le_refl _, rfl, e9, hw9, hf9, hl9, fun a ha => by
        by_cases c : ∃ k, k < t ∧ w k = a
        · exact .inl c
        · exact .inr (.inr ⟨c, (hF' a ha).elim (fun z => absurd z c) id⟩)⟩ ?_
    rintro μ σ' H10 ⟨m, F2, rfl, hmt, rfl, e10, hw10, hf10, hl10, hF2⟩
    walk_at "st"
    refine r_lenL (sqL hw10) (by rw [List.length_map, List.length_range]) ?_
    walk_at "st"
    refine ite_d (fun c => r_N ?_) (fun c => ?_)
    · obtain ⟨m, rfl⟩ : ∃ m', μ = m' + 1 := ⟨μ - 1, by omega⟩
      obtain ⟨w1, w2, w3, w4⟩ := W.st m (by omega)
      have cs := Lay.cl_step (nx := nx) (n := n) (j := ((w m : Nat) : Int)) (by omega) (by omega)
      rw [← w3] at cs
      rw [List.range_succ, List.map_append] at hw10
      walk_at "st"
      refine ite_d (fun c2 => ?_) (fun c2 => ?_)
      · walk_at "st"
        rw [if_pos (show 0 ≤ Lay.cl nx n ((w (m + 1) : Nat) : Int) from c2)] at cs
        rw [← cs]
        refine ⟨.inl ⟨rfl, _, sqL hw10⟩, ?_⟩
        refine r_popL (by exact hw10) (fun H11 h11 n11 => ?_)
        refine r_setL (j := w m) (stay n11 nfw hf10) rfl (by omega) (fun H12 h12 n12 => ?_)
        refine ⟨m, by omega, m, _, rfl, by omega, rfl, mut_ext (mut_ext e10 hwH n11) hfH n12, stay n12 nfw.symm h11, h12, by rw [List.length_set]; exact hl10, fun a ha => ?_⟩
        by_cases ca : a = w m
        · subst ca
          exact .inr (.inl ⟨⟨m, by omega, rfl⟩, List.getElem?_set_self (by omega)⟩)
        · rw [List.getElem?_set_ne (fun e => ca e.symm)]
          rcases hF2 a ha with ⟨k1, hk1, ek1⟩ | z
          · exact .inl ⟨k1, by have : k1 ≠ m := fun e => ca (by rw [← ek1, e]); omega, ek1⟩
          · exact .inr z
      · walk_at "st"
        have cg := Lay.cl_ge (nx := nx) (n := n) ((w (m + 1) : Nat) : Int)
        have c2' : ¬ 0 ≤ Lay.cl nx n ((w (m + 1) : Nat) : Int) := c2
        rw [if_neg c2'] at cs
        have ec : Lay.cl nx n ((w (m + 1) : Nat) : Int) = Lay.cl nx n ((w m : Nat) : Int) := by omega
        rw [ec]
        refine ⟨.inl ⟨rfl, _, sqL hw10⟩, ?_⟩
        refine r_popL (by exact hw10) (fun H11 h11 n11 => ?_)
        refine r_setL (j := w m) (stay n11 nfw hf10) rfl (by omega) (fun H12 h12 n12 => ?_)
        refine ⟨m, by omega, m, _, rfl, by omega, rfl, mut_ext (mut_ext e10 hwH n11) hfH n12, stay n12 nfw.symm h11, h12, by rw [List.length_set]; exact hl10, fun a ha => ?_⟩
        by_cases ca : a = w m
        · subst ca
          exact .inr (.inl ⟨⟨m, by omega, rfl⟩, List.getElem?_set_self (by omega)⟩)
        · rw [List.getElem?_set_ne (fun e => ca e.symm)]
          rcases hF2 a ha with ⟨k1, hk1, ek1⟩ | z
          · exact .inl ⟨k1, by have : k1 ≠ m := fun e => ca (by rw [← ek1, e]); omega, ek1⟩
          · exact .inr z
    · have m0 : μ = 0 := by omega
      subst m0
      refine ⟨F2, _, _, _, _, rfl, e10, hf10, hl10, fun a ha => ?_⟩
      rcases hF2 a ha with ⟨k1, hk1, _⟩ | ⟨_, z⟩ | ⟨hno, z⟩
      · exact absurd hk1 (Nat.not_lt_zero _)
      · exact .inr z
      · rw [z]
        rcases hF.2 a ha with ⟨z1, z2, z3⟩ | z1
        · refine .inl ⟨z1, ?_, z3⟩
          refine Nat.lt_of_le_of_ne z2 fun e => ?_
          by_cases ct : t = 0
          · subst ct
            rcases hF' a ha with ⟨k1, hk1, _⟩ | hh
            · exact absurd hk1 (Nat.not_lt_zero _)
            · rw [W.w0, show 1 + i = a by omega, hh, z1] at hv
              cases hv
          · exact hno ⟨0, by omega, by rw [W.w0]; omega⟩
        · exact .inr z1
  · rintro σ' H7 ⟨F, v1, v2, v3, v4, rfl, e7, h7, hF⟩
    walk_at "st"
    have ef : F = clL nx n := by
      apply List.ext_getElem?
      intro a
      by_cases c : a ≤ n
      · rw [clL_at c]
        rcases hF.2 a c with ⟨_, z2, z3⟩ | z
        · omega
        · exact z
      · rw [List.getElem?_eq_none (by rw [hF.1]; omega), List.getElem?_eq_none (by unfold clL; simp; omega)]
    rw [ef] at h7
    exact k f H7 hfH e7 h7

end
end K27
set_option maxRecDepth 100000
set_option maxHeartbeats 4000000
namespace K27
open PySem PySem.Spec PyProof.Rows L2 L3
local macro_rules | `(tactic| walk_at "s1") => `(tactic| first
  | with_reducible refine r_seq ?_
  | with_reducible refine r_asgN ?_
  | with_reducible refine r_ret ?_
  | with_reducible refine r_next ?_
  | ((with_reducible refine' r_var ?hv ?_); (case hv => exact rfl))
  | with_reducible refine r_c ?_
  | with_reducible refine r_op ?_
  | with_reducible refine r_cons ?_
  | with_reducible refine r_nil ?_
  | with_reducible refine r_plusI ?_
  | with_reducible refine r_I0 ?_
  | with_reducible refine r_test ?_
  | with_reducible refine r_bl ?_
  | with_reducible refine r_ifS ?_
  | with_reducible refine r_cb ?_
  | with_reducible refine r_callS ?_
  | with_reducible refine r_and ?_
  | with_reducible refine r_or ?_
  | with_reducible refine r_not ?_
  | with_reducible refine r_B ?_
  | ((with_reducible refine' r_aug ?hv ?_); (case hv => exact rfl))
  | with_reducible refine r_augS ?_
  | with_reducible refine r_ipI ?_
  | with_reducible refine r_asg ?_
  | with_reducible refine r_sub ?_
  | with_reducible refine r_brk ?_
  | with_reducible refine r_isN1 ?_
  | with_reducible refine r_notN1 ?_
  | with_reducible refine r_intI ?_
  | with_reducible refine r_abs ?_
  | with_reducible refine r_min ?_
  | with_reducible refine r_max ?_
  | ((with_reducible refine' r_mod ?hz ?_); (case hz => omega))
  | ((with_reducible refine' r_pow ?hz ?_); (case hz => exact ⟨by decide, by decide, by decide⟩))
  | ((with_reducible refine' r_rg1 ?hz ?_); (case hz => omega))
  | ((with_reducible refine' r_rg2 ?hz ?_); (case hz => omega))
  | ((with_reducible refine' r_newL ?hz ?_); (case hz => exact Nat.le_of_ble_eq_true rfl))
  | ((with_reducible refine' r_newT ?hz ?_); (case hz => exact Nat.le_of_ble_eq_true rfl))
  | with_reducible refine r_for ?_
  | with_reducible refine r_lc ?_
  | with_reducible refine r_iR1 ?_
  | with_reducible refine r_iR2 ?_
  | with_reducible refine r_iL ?_
  | with_reducible refine r_iT ?_
  | with_reducible refine r_gname ?_
  | with_reducible refine r_gcons ?_
  | with_reducible refine r_gnil ?_
  | with_reducible refine r_yes ?_
  | with_reducible refine r_mkO ?_
  | with_reducible refine r_cont ?_
  | with_reducible refine r_drop ?_
  | with_reducible refine r_retN ?_
  | with_reducible refine r_ifC ?_
  | with_reducible refine r_ifI ?_
  | with_reducible refine r_if ?_
  | with_reducible refine r_un ?_
  | with_reducible refine r_neg ?_
  | with_reducible refine r_andV ?_
  | with_reducible refine r_orV ?_
  | with_reducible refine r_notV ?_
  | with_reducible refine r_tup ?_
  | with_reducible refine r_lst ?_
  | with_reducible refine r_bm ?_
  | with_reducible refine r_bm0 ?_
  | with_reducible refine r_sl ?_
  | with_reducible refine r_chain ?_
  | with_reducible refine r_listDn ?_
  | with_reducible refine r_listRg2 ?_
  | with_reducible refine r_revL ?_
  | with_reducible refine r_noPart ?_
  | with_reducible refine r_part ?_
  | with_reducible refine r_int ?_
  | ((with_reducible refine' r_sameS ?hs ?_); (case hs => exact rfl))
  | ((with_reducible refine' r_otherS ?hs ?_); (case hs => exact rfl))
  | with_reducible refine ite_t ?_
  | with_reducible refine ite_f ?_
  | with_reducible refine ite_nt ?_
  | with_reducible refine ite_nf ?_)
local macro_rules | `(tactic| walk_at "st") => `(tactic| repeat (walk_at "s1"))

section
variable {P : Program} {w : World} {K : PySem.W.Frag} {mg : Str → Option Value} {base : Heap}
/-! ### what the program tells of any list -/
def ent (n : Nat) : PyData → Option Int
  | .int i => if 0 ≤ i ∧ i ≤ n then some i else none
  | _ => none
def nxd (n : Nat) (ds : List PyData) (j : Int) : Int := (((ds[(j - 1).toNat]?).bind (ent n)).getD j)
theorem nxd_none {n : Nat} {ds : List PyData} {k : Nat} {d : PyData} (h : ds[k]? = some d) (e : ent n d = none) : nxd n ds ((k : Int) + 1) = (k : Int) + 1 := by
  unfold nxd
  rw [show ((k : Int) + 1 - 1).toNat = k by omega, h]
  show ((ent n d).getD _) = _
  rw [e]
  rfl
theorem nxd_some {n : Nat} {ds : List PyData} {k : Nat} {d : PyData} {i : Int} (h : ds[k]? = some d) (e : ent n d = some i) : nxd n ds ((k : Int) + 1) = i := by
  unfold nxd
  rw [show ((k : Int) + 1 - 1).toNat = k by omega, h]
  show ((ent n d).getD _) = _
  rw [e]
  rfl
theorem ent_some {n : Nat} {d : PyData} {i : Int} (e : ent n d = some i) : d = .int i ∧ 0 ≤ i ∧ i ≤ n := by
  cases d with
  | int z =>
    have e0 : ent n (.int z) = if 0 ≤ z ∧ z ≤ n then some z else none := rfl
    rw [e0] at e
    by_cases h : 0 ≤ z ∧ z ≤ n
    · rw [if_pos h] at e
      have := Option.some.inj e
      subst this
      exact ⟨rfl, h.1, h.2⟩
    · rw [if_neg h] at e
      cases e
  | none => cases e
  | bool _ => cases e
  | str _ => cases e
  | list _ => cases e
  | tuple _ => cases e
  | dict _ => cases e
theorem nxd_rng {n : Nat} {ds : List PyData} {j : Int} (h1 : 1 ≤ j) (h2 : j < n) : 0 ≤ nxd n ds j ∧ nxd n ds j ≤ n := by
  unfold nxd
  cases e : ds[(j - 1).toNat]? with
  | none => show 0 ≤ j ∧ j ≤ n; omega
  | some d =>
    show 0 ≤ (ent n d).getD j ∧ (ent n d).getD j ≤ n
    cases e2 : ent n d with
    | none => show 0 ≤ j ∧ j ≤ n; omega
    | some i => exact (ent_some e2).2
/-- an entry that leads to itself has no end -/
theorem nxd_ent {n : Nat} {ds : List PyData} {k : Nat} (hk : k + 1 < n) (hl : k < ds.length) (h : 0 ≤ Lay.cl (nxd n ds) n ((k : Int) + 1)) : ∃ i, ds[k]? = some (.int i) ∧ nxd n ds ((k : Int) + 1) = i := by
  have ed : ds[k]? = some ds[k] := List.getElem?_eq_getElem hl
  cases e : ent n ds[k] with
  | none =>
    exfalso
    have e1 := nxd_none ed e
    have st := Lay.cl_step (nx := nxd n ds) (n := n) (j := (k : Int) + 1) (by omega) (by omega)
    rw [e1] at st
    split at st <;> omega
  | some i =>
    obtain ⟨e1, _⟩ := ent_some e
    exact ⟨i, by rw [ed, e1], nxd_some ed e⟩
/-- all right: the list tells the parents -/
theorem par_of {K : PySem.W.Frag} {H : Hp} {n : Nat} {xs : List V} {ds : List PyData} (hd : DpAll K H xs ds) (hl : ds.length = n - 1) (h : ∀ j : Nat, 1 ≤ j → j < n → 0 ≤ Lay.cl (nxd n ds) n j) : Par (nxd n ds) n xs := fun j h1 h2 => by
  obtain ⟨k, rfl⟩ : ∃ k, j = k + 1 := ⟨j - 1, by omega⟩
  have hc := h (k + 1) h1 h2
  rw [Int.natCast_add] at hc ⊢
  obtain ⟨i, e1, e2⟩ := nxd_ent (ds := ds) h2 (by omega) hc
  obtain ⟨x, ex, hx⟩ := dps_get hd e1
  rw [show k + 1 - 1 = k by omega, ex]
  have r := nxd_rng (n := n) (ds := ds) (j := (k : Int) + 1) (by omega) (by omega)
  refine ⟨?_, r⟩
  cases hx
  show some (V.int i) = some (V.int (nxd n ds ((k : Int) + 1)))
  rw [e2]
def spParts (K : PySem.W.Frag) : Sp := fun vs H Q E => ∃ n : Int, vs = [.int n] ∧ (400 < n → Bad K E H "TooMany" "layout") ∧ (n ≤ 400 → n < 1 → Bad K E H "BadLayout" "parts") ∧ (1 ≤ n → n ≤ 400 → Q .non H)
theorem sc_check_parts : FnScope ["n"] ["n"] (defScope s_check_parts) := ⟨rfl, rfl, rfl, by decide +kernel, rfl, by decide +kernel, by decide +kernel⟩
theorem ok_check_parts (T : Txt w K mg) : CalG P w K mg base 6 "check_parts" ["n"] (spParts K) := by
  have c_BadLayout : ErrI P w K mg base "BadLayout" ["self", "what"] _ := ci_BadLayout T
  have c_bound := ok_bound (P := P) (base := base) T
  refine calG_of T.g_check_parts T.d_check_parts sc_check_parts (fun _ _ _ _ _ _ _ us hl => match us, hl with | [_], _ => rfl) (fun vs H Q E h => by obtain ⟨n, rfl, _⟩ := h; rfl) (fun cdv A outer s H vs Q E hr h => ?_)
  have nd := sc_check_parts.nd
  have hu := hu64 hr
  obtain ⟨n, rfl, b1, b2, k⟩ := h
  refine ⟨_, (pss_cons (ps_expr (pe_cal c_bound hr (by omega) (fun σ => L2N.passAt (L2N.takes_of rfl rfl rfl rfl) σ) (pa_cons pe_str (pa_cons (pv 0) pa_nil))))
        (pss_one (ps_if (pt_cmpR op_lt (pv 0) pe_int (nomark _)) (pss_one (L2N.ps_raise rfl (L2N.takes_of rfl rfl rfl rfl) (pmk_errI T.e_BadLayout c_BadLayout hr (by decide) T.g_BadLayout (pa_cons pe_str pa_nil)))) pss_nil))), ?_⟩
  walk_at "st"
  refine ⟨_, 400, n, rfl, by simp [kv_LIMITS], fun c => b1 c, fun c1 => ?_⟩
  walk_at "st"
  refine ite_d (fun c => ?_) (fun c => ?_)
  · walk_at "st"
    exact r_mk1 (b2 (by omega) c)
  · walk_at "st"
    exact k (by omega) (by omega)
def spRights (K : PySem.W.Frag) : Sp := fun vs H Q _ => ∃ (n : Nat) (p : Addr) (xs : List V) (ds : List PyData), vs = [.int n, .ref p] ∧ (1 ≤ n ∧ n ≤ 400) ∧ SqL K H p xs ∧ DpAll K H xs ds ∧ ds.length = n - 1 ∧
  ∀ q H' ys, H q = none → Ext H H' → H' q = some (.lst ys) → Par (nxd n ds) n ys → Q (.ref q) H'
theorem sc_right_parents : FnScope ["n", "parents", "found", "at", "parent", "good"] ["n", "parents"] (defScope s_right_parents) := ⟨rfl, rfl, rfl, by decide +kernel, rfl, by decide +kernel, by decide +kernel⟩
theorem ok_right_parents (T : Txt w K mg) : CalG P w K mg base 2 "right_parents" ["n", "parents"] (spRights K) := by
  refine calG_of T.g_right_parents T.d_right_parents sc_right_parents (fun _ _ _ _ _ _ _ us hl => match us, hl with | [_, _], _ => rfl) (fun vs H Q E h => by obtain ⟨_, _, _, _, rfl, _⟩ := h; rfl) (fun cdv A outer s H vs Q E hr h => ?_)
  have nd := sc_right_parents.nd
  have hu := hu64 hr
  obtain ⟨n, p, xs, ds, rfl, ⟨hn1, hn2⟩, hp, hd, hl, k⟩ := h
  refine ⟨_, (pss_cons (ps_set (i := 2) nd rfl (Or.inl rfl) (pe_lst pa_nil))
        (pss_cons (ps_for (passes_of rfl) rfl (pi_range1 (by rfl) T.f_range (pa_cons (pe_op op_sub (pv 0) pe_int) pa_nil)) (pg_name (i := 3) nd rfl (Or.inl rfl)) (pss_cons (ps_set (i := 4) nd rfl (Or.inl rfl) (pe_ix (ixK (K := K)) (pv 1) (pv 3) (fun _ _ => rfl)))
        (pss_cons (ps_set (i := 5) nd rfl (Or.inl rfl) (pe_and (pe_callB (isiK (K := K)) (by rfl) T.f_isinstance (by decide +kernel) (pa_cons (pv 4) (pa_cons (pe_ty T.f_int) pa_nil))) (pe_and (pe_not (pe_callB (isiK (K := K)) (by rfl) T.f_isinstance (by decide +kernel) (pa_cons (pv 4) (pa_cons (pe_ty T.f_bool) pa_nil)))) (pe_one (pe_chain op_le op_le pe_int (pv 4) (pv 0))))))
        (pss_one (ps_expr (peBM (K := K) (pe_bm PySem.F.plainAttrs_list PySem.F.slot_list_append PySem.F.type_list_append mt_append (pv 2) (pa_cons (pe_ifExp (pt_val (pv 5)) (pv 4) (pe_op (plusK (K := K)) (pv 3) pe_int)) pa_nil))))))))
        (pss_one (ps_ret (pv 2))))), ?_⟩
  walk_at "st"
  intro f H1 hf e1 h1
  walk_at "st"
  rw [show ((n : Int) - 1).toNat = n - 1 by omega]
  refine forW_range (fun i σ' H' => ∃ v1 v2 v3, σ' = [some (.int n), some (.ref p), some (.ref f), v1, v2, v3] ∧ Ext H H' ∧ H' f = some (.lst ((List.range i).map fun (k : Nat) => V.int (nxd n ds ((k : Int) + 1))))) ⟨none, none, none, rfl, e1, h1⟩ ?_ ?_
  · rintro i σ' H2 hi ⟨v1, v2, v3, rfl, e2, h2⟩
    have ed : ds[i]? = some ds[i] := List.getElem?_eq_getElem (by omega)
    obtain ⟨x, ex, hx⟩ := dps_get hd ed
    have hx2 := e2.dp _ hx
    generalize hdd : ds[i] = d at *
    walk_at "st"
    refine r_atL (e2.l hp) (by rw [Int.zero_add]; exact atI_nat ex) ?_
    walk_at "st"
    have app : ∀ (z : V) (v1 v2 v3 : Option V), z = .int (nxd n ds ((i : Int) + 1)) → rAppend (.ref f) [z] H2 fun _ H3 => ∃ v1' v2' v3', [some (V.int n), some (.ref p), some (.ref f), v1, v2, v3] = [some (.int n), some (.ref p), some (.ref f), v1', v2', v3'] ∧ Ext H H3 ∧ H3 f = some (.lst ((List.range (i + 1)).map fun (k : Nat) => V.int (nxd n ds ((k : Int) + 1)))) := fun z v1 v2 v3 ez => by
      refine r_app h2 (by rw [List.length_map, List.length_range]; omega) (fun H3 h3 n3 => ⟨_, _, _, rfl, mut_ext e2 hf n3, ?_⟩)
      rw [h3, ez, List.range_succ, List.map_append]
      rfl
    have none_ : ent n d = none → V.int (0 + (i : Int) + 1) = .int (nxd n ds ((i : Int) + 1)) := fun e => by rw [nxd_none ed e, Int.zero_add]
    have ty2 : tyV K "list" (.ref f) H2 := .inl ⟨rfl, _, sqL h2⟩
    refine r_isi hx2 (by simp) ?_
    cases hx2 with
    | int z =>
      have e0 : ent n (.int z) = if 0 ≤ z ∧ z ≤ n then some z else none := rfl
      rw [show isB (tyD (.int z)) "int" = true by simp [isB, tyD]]
      walk_at "st"
      refine r_isi (.int z) (by simp) ?_
      rw [show isB (tyD (.int z)) "bool" = false by simp [isB, tyD]]
      walk_at "st"
      refine ite_d (fun c1 => ?_) (fun c1 => ?_)
      · walk_at "st"
        by_cases c2 : z ≤ n
        · rw [decide_eq_true c2]
          walk_at "st"
          refine ⟨ty2, ?_⟩
          walk_at "st"
          exact app _ _ _ _ (by rw [nxd_some ed (e0.trans (if_pos ⟨c1, c2⟩))])
        · rw [decide_eq_false c2]
          walk_at "st"
          refine ⟨ty2, ?_⟩
          walk_at "st"
          exact app _ _ _ _ (none_ (e0.trans (if_neg fun z => c2 z.2)))
      · walk_at "st"
        refine ⟨ty2, ?_⟩
        walk_at "st"
        exact app _ _ _ _ (none_ (e0.trans (if_neg fun z => c1 z.1)))
    | bl b =>
      rw [show isB (tyD (.bool b)) "int" = true by simp [isB, tyD]]
      walk_at "st"
      refine r_isi (.bl b) (by simp) ?_
      rw [show isB (tyD (.bool b)) "bool" = true by simp [isB, tyD]]
      walk_at "st"
      refine ⟨ty2, ?_⟩
      walk_at "st"
      exact app _ _ _ _ (none_ rfl)
    | non =>
      rw [show isB (tyD .none) "int" = false by simp [isB, tyD]]
      walk_at "st"
      refine ⟨ty2, ?_⟩
      walk_at "st"
      exact app _ _ _ _ (none_ rfl)
    | str s =>
      rw [show isB (tyD (.str s)) "int" = false by simp [isB, tyD]]
      walk_at "st"
      refine ⟨ty2, ?_⟩
      walk_at "st"
      exact app _ _ _ _ (none_ rfl)
    | lst h hs =>
      rw [show ∀ l, isB (tyD (.list l)) "int" = false by simp [isB, tyD]]
      walk_at "st"
      refine ⟨ty2, ?_⟩
      walk_at "st"
      exact app _ _ _ _ (none_ rfl)
    | tup h hs =>
      rw [show ∀ l, isB (tyD (.tuple l)) "int" = false by simp [isB, tyD]]
      walk_at "st"
      refine ⟨ty2, ?_⟩
      walk_at "st"
      exact app _ _ _ _ (none_ rfl)
  · rintro σ' H2 ⟨v1, v2, v3, rfl, e2, h2⟩
    walk_at "st"
    refine k f H2 _ hf e2 h2 fun j h1 h2 => ?_
    obtain ⟨k, rfl⟩ : ∃ k, j = k + 1 := ⟨j - 1, by omega⟩
    rw [show k + 1 - 1 = k by omega, List.getElem?_map, List.getElem?_range (by omega), Int.natCast_add]
    exact ⟨rfl, nxd_rng (by omega) (by omega)⟩
/-- the first wrong parent -/
def WP (n : Nat) (ds : List PyData) (o : V) : Prop := (ds.length ≠ n - 1 ∧ o = .int 0) ∨ (ds.length = n - 1 ∧ ∃ j : Nat, (1 ≤ j ∧ j < n) ∧ Lay.cl (nxd n ds) n j < 0 ∧ (∀ i : Nat, 1 ≤ i → i < j → 0 ≤ Lay.cl (nxd n ds) n i) ∧ o = .int j) ∨
  (ds.length = n - 1 ∧ (∀ j : Nat, 1 ≤ j → j < n → 0 ≤ Lay.cl (nxd n ds) n j) ∧ o = .non)
theorem WP.uniq {n : Nat} {ds : List PyData} {o o' : V} (h : WP n ds o) (g : WP n ds o') : o = o' := by
  rcases h with ⟨h1, h2⟩ | ⟨h1, j, hj, h2, h3, h4⟩ | ⟨h1, h2, h3⟩ <;> rcases g with ⟨g1, g2⟩ | ⟨g1, j', gj, g2, g3, g4⟩ | ⟨g1, g2, g3⟩ <;> (try exact absurd g1 h1) <;> (try exact absurd h1 g1)
  · rw [h2, g2]
  · rcases Nat.lt_trichotomy j j' with c | c | c
    · have := g3 j (by omega) c; omega
    · rw [h4, g4, c]
    · have := h3 j' (by omega) c; omega
  · have := g2 j (by omega) (by omega); omega
  · have := h2 j' (by omega) (by omega); omega
  · rw [h3, g3]
def spWrong (K : PySem.W.Frag) : Sp := fun vs H Q _ => ∃ (n : Nat) (p : Addr) (xs : List V) (ds : List PyData), vs = [.int n, .ref p] ∧ (1 ≤ n ∧ n ≤ 400) ∧ SqL K H p xs ∧ DpAll K H xs ds ∧ ∀ o H', WP n ds o → Ext H H' → Q o H'
theorem sc_wrong_parent : FnScope ["n", "parents", "found", "joint"] ["n", "parents"] (defScope s_wrong_parent) := ⟨rfl, rfl, rfl, by decide +kernel, rfl, by decide +kernel, by decide +kernel⟩
theorem ok_wrong_parent (T : Txt w K mg) : CalG P w K mg base 3 "wrong_parent" ["n", "parents"] (spWrong K) := by
  have c_right_parents := ok_right_parents (P := P) (base := base) T
  have c_chains_to := ok_chains_to (P := P) (base := base) T
  refine calG_of T.g_wrong_parent T.d_wrong_parent sc_wrong_parent (fun _ _ _ _ _ _ _ us hl => match us, hl with | [_, _], _ => rfl) (fun vs H Q E h => by obtain ⟨_, _, _, _, rfl, _⟩ := h; rfl) (fun cdv A outer s H vs Q E hr h => ?_)
  have nd := sc_wrong_parent.nd
  have hu := hu64 hr
  obtain ⟨n, p, xs, ds, rfl, ⟨hn1, hn2⟩, hp, hd, k⟩ := h
  have hxl := dps_len hd
  refine ⟨_, (pss_cons (ps_if (pt_cmpR (otherK (K := K) hu) (pe_callB (lenK (K := K)) (by rfl) T.f_len boot_len (pa_cons (pv 1) pa_nil)) (pe_op op_sub (pv 0) pe_int) (nomark _)) (pss_one (ps_ret pe_int)) pss_nil)
        (pss_cons (ps_set (i := 2) nd rfl (Or.inl rfl) (pe_cal c_chains_to hr (by omega) (fun σ => L2N.passAt (L2N.takes_of rfl rfl rfl rfl) σ) (pa_cons (pv 0) (pa_cons (pe_cal c_right_parents hr (by omega) (fun σ => L2N.passAt (L2N.takes_of rfl rfl rfl rfl) σ) (pa_cons (pv 0) (pa_cons (pv 1) pa_nil))) pa_nil))))
        (pss_cons (ps_for (passes_of rfl) rfl (pi_range2 (by rfl) T.f_range (pa_cons pe_int (pa_cons (pv 0) pa_nil))) (pg_name (i := 3) nd rfl (Or.inl rfl)) (pss_one (ps_if (pt_cmpR op_lt (pe_ix (ixK (K := K)) (pv 2) (pv 3) (fun _ _ => rfl)) pe_int (nomark _)) (pss_one (ps_ret (pv 3))) pss_nil)))
        (pss_one (ps_ret pe_non))))), ?_⟩
  walk_at "st"
  refine r_lenL hp rfl ?_
  walk_at "st"
  refine ite_n (fun c => ?_) (fun c => ?_)
  · walk_at "st"
    exact k _ H (.inl ⟨fun e => c (by rw [hxl, e]; congr 1; omega), rfl⟩) .rfl
  have hl : ds.length = n - 1 := by have := V.int.inj c; omega
  walk_at "st"
  refine ⟨n, p, xs, ds, rfl, ⟨hn1, hn2⟩, hp, hd, hl, fun q H1 ys hq e1 h1 hpar => ?_⟩
  walk_at "st"
  refine ⟨n, q, ys, nxd n ds, rfl, ⟨hn1, by omega⟩, sqL h1, hpar, fun f H2 hf e2 h2 => ?_⟩
  walk_at "st"
  rw [show ((n : Int) - 1).toNat = n - 1 by omega]
  refine forW_range (fun i σ' H' => ∃ v, σ' = [some (.int n), some (.ref p), some (.ref f), v] ∧ H2 = H' ∧ ∀ j : Nat, 1 ≤ j → j < 1 + i → 0 ≤ Lay.cl (nxd n ds) n j) ⟨none, rfl, rfl, fun j h1 h2 => by omega⟩ ?_ ?_
  · rintro i σ' H' hi ⟨v, rfl, rfl, hall⟩
    walk_at "st"
    rw [show (1 : Int) + (i : Int) = ((1 + i : Nat) : Int) by omega]
    refine r_atL (sqL h2) (atI_nat (clL_at (by omega))) ?_
    walk_at "st"
    refine ite_d (fun c => ?_) (fun c => ?_)
    · walk_at "st"
      exact k _ H2 (.inr (.inl ⟨hl, 1 + i, by omega, c, hall, rfl⟩)) (e1.trans e2)
    · walk_at "st"
      refine ⟨_, rfl, rfl, fun j j1 j2 => ?_⟩
      by_cases e : j = 1 + i
      · subst e; omega
      · exact hall j j1 (by omega)
  · rintro σ' H' ⟨v, rfl, rfl, hall⟩
    walk_at "st"
    exact k _ H2 (.inr (.inr ⟨hl, fun j j1 j2 => hall j j1 (by omega), rfl⟩)) (e1.trans e2)

end
end K27
set_option maxRecDepth 100000
set_option maxHeartbeats 4000000
namespace K27
open PySem PySem.Spec PyProof.Rows L2 L3
local macro_rules | `(tactic| walk_at "s1") => `(tactic| first
  | with_reducible refine r_seq ?_
  | with_reducible refine r_asgN ?_
  | with_reducible refine r_ret ?_
  | with_reducible refine r_next ?_
  | ((with_reducible refine' r_var ?hv ?_); (case hv => exact rfl))
  | with_reducible refine r_c ?_
  | with_reducible refine r_op ?_
  | with_reducible refine r_cons ?_
  | with_reducible refine r_nil ?_
  | with_reducible refine r_plusI ?_
  | with_reducible refine r_I0 ?_
  | with_reducible refine r_test ?_
  | with_reducible refine r_bl ?_
  | with_reducible refine r_ifS ?_
  | with_reducible refine r_cb ?_
  | with_reducible refine r_callS ?_
  | with_reducible refine r_and ?_
  | with_reducible refine r_or ?_
  | with_reducible refine r_not ?_
  | with_reducible refine r_B ?_
  | ((with_reducible refine' r_aug ?hv ?_); (case hv => exact rfl))
  | with_reducible refine r_augS ?_
  | with_reducible refine r_ipI ?_
  | with_reducible refine r_asg ?_
  | with_reducible refine r_sub ?_
  | with_reducible refine r_brk ?_
  | with_reducible refine r_isN1 ?_
  | with_reducible refine r_notN1 ?_
  | with_reducible refine r_intI ?_
  | with_reducible refine r_abs ?_
  | with_reducible refine r_min ?_
  | with_reducible refine r_max ?_
  | ((with_reducible refine' r_mod ?hz ?_); (case hz => omega))
  | ((with_reducible refine' r_pow ?hz ?_); (case hz => exact ⟨by decide, by decide, by decide⟩))
  | ((with_reducible refine' r_rg1 ?hz ?_); (case hz => omega))
  | ((with_reducible refine' r_rg2 ?hz ?_); (case hz => omega))
  | ((with_reducible refine' r_newL ?hz ?_); (case hz => exact Nat.le_of_ble_eq_true rfl))
  | ((with_reducible refine' r_newT ?hz ?_); (case hz => exact Nat.le_of_ble_eq_true rfl))
  | with_reducible refine r_for ?_
  | with_reducible refine r_lc ?_
  | with_reducible refine r_iR1 ?_
  | with_reducible refine r_iR2 ?_
  | with_reducible refine r_iL ?_
  | with_reducible refine r_iT ?_
  | with_reducible refine r_gname ?_
  | with_reducible refine r_gcons ?_
  | with_reducible refine r_gnil ?_
  | with_reducible refine r_yes ?_
  | with_reducible refine r_mkO ?_
  | with_reducible refine r_cont ?_
  | with_reducible refine r_drop ?_
  | with_reducible refine r_retN ?_
  | with_reducible refine r_ifC ?_
  | with_reducible refine r_ifI ?_
  | with_reducible refine r_if ?_
  | with_reducible refine r_un ?_
  | with_reducible refine r_neg ?_
  | with_reducible refine r_andV ?_
  | with_reducible refine r_orV ?_
  | with_reducible refine r_notV ?_
  | with_reducible refine r_tup ?_
  | with_reducible refine r_lst ?_
  | with_reducible refine r_bm ?_
  | with_reducible refine r_bm0 ?_
  | with_reducible refine r_sl ?_
  | with_reducible refine r_chain ?_
  | with_reducible refine r_listDn ?_
  | with_reducible refine r_listRg2 ?_
  | with_reducible refine r_revL ?_
  | with_reducible refine r_noPart ?_
  | with_reducible refine r_part ?_
  | with_reducible refine r_int ?_
  | ((with_reducible refine' r_sameS ?hs ?_); (case hs => exact rfl))
  | ((with_reducible refine' r_otherS ?hs ?_); (case hs => exact rfl))
  | with_reducible refine ite_t ?_
  | with_reducible refine ite_f ?_
  | with_reducible refine ite_nt ?_
  | with_reducible refine ite_nf ?_)
local macro_rules | `(tactic| walk_at "st") => `(tactic| repeat (walk_at "s1"))

section
variable {P : Program} {w : World} {K : PySem.W.Frag} {mg : Str → Option Value} {base : Heap}
theorem parL_at {par : Int → Int} {n : Nat} {j : Int} (h1 : 1 ≤ j) (h2 : j < n) : atI ((parL par n).map V.int) (j - 1) = some (.int (par j)) := by
  obtain ⟨k, rfl⟩ : ∃ k : Nat, j = k + 1 := ⟨(j - 1).toNat, by omega⟩
  rw [show (k : Int) + 1 - 1 = (k : Int) by omega]
  refine atI_nat ?_
  unfold parL
  rw [List.getElem?_map, List.getElem?_map, List.getElem?_range (by omega)]
  rfl
theorem flat_at {m : Int} {n i : Nat} {v : V} (hm : m.toNat = n) (h : i < n) : (List.replicate m.toNat [v]).flatten[i]? = some v := by
  rw [hm, List.flatten_replicate_singleton, List.getElem?_replicate, if_pos h]
theorem set_map {n k : Nat} {f : Nat → Int} {v : Int} : (((List.range n).map fun p => V.int (f p)).set k (.int v)) = (List.range n).map fun p => V.int (if p = k then v else f p) := by
  apply List.ext_getElem?
  intro i
  by_cases c : i < n
  · by_cases e : k = i
    · subst e
      rw [List.getElem?_set_self (by simpa using c), List.getElem?_map, List.getElem?_range c]
      simp
    · rw [List.getElem?_set_ne e, List.getElem?_map, List.getElem?_map, List.getElem?_range c]
      simp
      intro z
      exact absurd z.symm e
  · rw [List.getElem?_eq_none (by simp; omega), List.getElem?_eq_none (by simp; omega)]

/-! ### loads by differences -/
def ldV (nx : Int → Int) (n : Nat) : List V := (List.range n).map fun (q : Nat) => V.int (Lay.load nx n q)
theorem ldV_at {nx : Int → Int} {n q : Nat} (h : q < n) : (ldV nx n)[q]? = some (V.int (Lay.load nx n q)) := by
  unfold ldV
  rw [List.getElem?_map, List.getElem?_range h]
  rfl
/-- what starts at q, less what ends there -/
def chg (nx : Int → Int) (q j : Int) : Int := (if min j (nx j) = q then 1 else 0) - (if max j (nx j) = q then 1 else 0)
def spLoads (K : PySem.W.Frag) (T : Prop) : Sp := fun vs H Q _ => ∃ (n : Nat) (p : Addr) (xs : List V) (nx : Int → Int), vs = [.int n, .ref p] ∧ (1 ≤ n ∧ n ≤ 400) ∧ SqL K H p xs ∧ Par nx n xs ∧ ∀ q H', H q = none → Ext H H' → H' q = some (.lst (ldV nx n)) → Q (.ref q) H'
theorem sI_chg (nx : Int → Int) (lo : Int) (n : Nat) (p : Int) : Lay.sI (fun j => (if min j (nx j) < p then 1 else 0) - (if max j (nx j) < p then 1 else 0)) lo n + Lay.sI (chg nx p) lo n = Lay.sI (fun j => (if min j (nx j) < p + 1 then 1 else 0) - (if max j (nx j) < p + 1 then 1 else 0)) lo n := by
  rw [← Lay.sI_plus]
  refine Lay.sI_congr fun j _ _ => ?_
  unfold chg
  generalize min j (nx j) = x
  generalize max j (nx j) = y
  by_cases a : x < p <;> by_cases b : y < p <;> by_cases c : x = p <;> by_cases d : y = p <;> simp [a, b, c, d] <;> (try split) <;> (try split) <;> omega
theorem sI_cov (nx : Int → Int) (lo : Int) (n : Nat) (p : Int) : Lay.sI (fun j => (if min j (nx j) < p + 1 then 1 else 0) - (if max j (nx j) < p + 1 then 1 else 0)) lo n = Lay.sI (Lay.cov nx p) lo n := by
  refine Lay.sI_congr fun j _ _ => ?_
  unfold Lay.cov
  generalize nx j = z
  by_cases c : (z ≤ p ∧ p < j) ∨ (j ≤ p ∧ p < z)
  · rw [if_pos c, if_pos (by omega), if_neg (by omega)]; rfl
  · rw [if_neg c]
    by_cases d : min j z < p + 1
    · rw [if_pos d, if_pos (by omega)]; rfl
    · rw [if_neg d, if_neg (by omega)]; rfl
theorem sc_loads_of : FnScope ["n", "parents", "change", "at", "found", "now", "part"] ["n", "parents"] (defScope s_loads_of) := ⟨rfl, rfl, rfl, by decide +kernel, rfl, by decide +kernel, by decide +kernel⟩
theorem ok_loads_of (T : Txt w K mg) : CalG P w K mg base 2 "loads_of" ["n", "parents"] (spLoads K True) := by
  refine calG_of T.g_loads_of T.d_loads_of sc_loads_of (fun _ _ _ _ _ _ _ us hl => match us, hl with | [_, _], _ => rfl) (fun vs H Q E h => by obtain ⟨_, _, _, _, rfl, _⟩ := h; rfl) (fun cdv A outer s H vs Q E hr h => ?_)
  have nd := sc_loads_of.nd
  have hu := hu64 hr
  obtain ⟨n, p, xs, nx, rfl, ⟨hn1, hn2⟩, hp, hpar, k⟩ := h
  refine ⟨_, (pss_cons (ps_set (i := 2) nd rfl (Or.inl rfl) (pe_op op_timesB (pe_lst (pa_cons pe_int pa_nil)) (pe_op (plusK (K := K)) (pv 0) pe_int)))
        (pss_cons (ps_for (passes_of rfl) rfl (pi_range1 (by rfl) T.f_range (pa_cons (pe_op op_sub (pv 0) pe_int) pa_nil)) (pg_name (i := 3) nd rfl (Or.inl rfl)) (pss_cons (ps_augS (pv 2) (pe_callB (cr_min2 rfl) (by rfl) T.f_min (by decide +kernel) (pa_cons (pe_op (plusK (K := K)) (pv 3) pe_int) (pa_cons (pe_ix (ixK (K := K)) (pv 1) (pv 3) (fun _ _ => rfl)) pa_nil))) (getLK (K := K)) pe_int ip_add set_list)
        (pss_one (ps_augS (pv 2) (pe_callB (cr_max2 rfl) (by rfl) T.f_max (by decide +kernel) (pa_cons (pe_op (plusK (K := K)) (pv 3) pe_int) (pa_cons (pe_ix (ixK (K := K)) (pv 1) (pv 3) (fun _ _ => rfl)) pa_nil))) (getLK (K := K)) pe_int ip_sub set_list))))
        (pss_cons (ps_set (i := 4) nd rfl (Or.inl rfl) (pe_lst pa_nil))
        (pss_cons (ps_set (i := 5) nd rfl (Or.inl rfl) pe_int)
        (pss_cons (ps_for (passes_of rfl) rfl (pi_range1 (by rfl) T.f_range (pa_cons (pv 0) pa_nil)) (pg_name (i := 6) nd rfl (Or.inl rfl)) (pss_cons (ps_aug (i := 5) nd rfl (Or.inl rfl) (pe_ix (ixK (K := K)) (pv 2) (pv 6) (fun _ _ => rfl)) ip_add)
        (pss_one (ps_expr (peBM (K := K) (pe_bm PySem.F.plainAttrs_list PySem.F.slot_list_append PySem.F.type_list_append mt_append (pv 4) (pa_cons (pv 5) pa_nil)))))))
        (pss_one (ps_ret (pv 4)))))))), ?_⟩
  walk_at "st"
  intro a1 H1 ha1 e1 h1
  walk_at "st"
  refine r_repL h1 (by omega) (by omega) (by simp; omega) (fun ch H2 hch e2 h2 => ?_)
  have hcH : H ch = none := e1.none hch
  walk_at "st"
  rw [show ((n : Int) - 1).toNat = n - 1 by omega]
  refine forW_range (fun i σ' H' => ∃ v, σ' = [some (.int n), some (.ref p), some (.ref ch), v, none, none, none] ∧ Ext H H' ∧ H' ch = some (.lst ((List.range (n + 1)).map fun (q : Nat) => V.int (Lay.sI (chg nx q) 1 i)))) ⟨none, rfl, e1.trans e2, ?_⟩ ?_ ?_
  · rw [h2]
    congr 2
    apply List.ext_getElem?
    intro i
    by_cases c : i < n + 1
    · rw [List.getElem?_map, List.getElem?_range c, flat_at (by omega) c]
      rfl
    · rw [List.getElem?_eq_none (by rw [flat_len]; omega), List.getElem?_eq_none (by simp; omega)]
  · rintro i σ' H3 hi ⟨v, rfl, e3, h3⟩
    obtain ⟨px, p0, p1⟩ := hpar (i + 1) (by omega) (by omega)
    rw [Nat.add_sub_cancel] at px
    have pj : ((i + 1 : Nat) : Int) = (i : Int) + 1 := by omega
    rw [pj] at px p0 p1
    have hmm : min ((i : Int) + 1) (nx ((i : Int) + 1)) = ((min ((i : Int) + 1) (nx ((i : Int) + 1))).toNat : Int) := by omega
    have hmx : max ((i : Int) + 1) (nx ((i : Int) + 1)) = ((max ((i : Int) + 1) (nx ((i : Int) + 1))).toNat : Int) := by omega
    walk_at "st"
    rw [Int.zero_add]
    refine r_atL (e3.l hp) (atI_nat px) ?_
    walk_at "st"
    refine r_getL (sqL h3) (by omega) (v := .int (Lay.sI (chg nx (min ((i : Int) + 1) (nx ((i : Int) + 1)))) 1 i)) ?_ ?_
    · rw [List.getElem?_map, List.getElem?_range (by omega)]
      show some (V.int (Lay.sI (chg nx ((min ((i : Int) + 1) (nx ((i : Int) + 1))).toNat : Int)) 1 i)) = _
      rw [← hmm]
    walk_at "st"
    refine r_setL (j := (min ((i : Int) + 1) (nx ((i : Int) + 1))).toNat) h3 hmm (by rw [List.length_map, List.length_range]; omega) (fun H4 h4 n4 => ?_)
    rw [set_map] at h4
    have e4 := mut_ext e3 hcH n4
    walk_at "st"
    refine r_atL (e4.l hp) (atI_nat px) ?_
    walk_at "st"
    refine r_getL (sqL h4) (by omega) (v := .int (if (max ((i : Int) + 1) (nx ((i : Int) + 1))).toNat = (min ((i : Int) + 1) (nx ((i : Int) + 1))).toNat then Lay.sI (chg nx (min ((i : Int) + 1) (nx ((i : Int) + 1)))) 1 i + 1 else Lay.sI (chg nx ((max ((i : Int) + 1) (nx ((i : Int) + 1))).toNat : Int)) 1 i)) ?_ ?_
    · rw [List.getElem?_map, List.getElem?_range (by omega)]
      rfl
    walk_at "st"
    refine r_setL (j := (max ((i : Int) + 1) (nx ((i : Int) + 1))).toNat) h4 hmx (by rw [List.length_map, List.length_range]; omega) (fun H5 h5 n5 => ?_)
    rw [set_map] at h5
    refine ⟨_, rfl, mut_ext e4 hcH n5, ?_⟩
    rw [h5]
    congr 2
    refine List.map_congr_left fun q _ => ?_
    congr 1
    show _ = Lay.sI (chg nx q) 1 i + chg nx q (1 + (i : Int))
    unfold chg
    rw [Int.add_comm 1 (i : Int)]
    generalize nx ((i : Int) + 1) = z at *
    by_cases c1 : q = (max ((i : Int) + 1) z).toNat
    · rw [if_pos c1]
      by_cases c2 : (max ((i : Int) + 1) z).toNat = (min ((i : Int) + 1) z).toNat
      · rw [if_pos c2, if_pos (by omega), if_pos (by omega), show (q : Int) = min ((i : Int) + 1) z by omega]
        omega
      · rw [if_neg c2, if_neg (by omega), if_pos (by omega), c1]
        omega
    · rw [if_neg c1]
      by_cases c2 : q = (min ((i : Int) + 1) z).toNat
      · rw [if_pos c2, if_pos (by omega), if_neg (by omega), show (q : Int) = min ((i : Int) + 1) z by omega]
        omega
      · rw [if_neg c2, if_neg (by omega), if_neg (by omega)]
        omega
  · rintro σ' H3 ⟨v, rfl, e3, h3⟩
    walk_at "st"
    intro f H4 hf e4 h4
    have hfH : H f = none := e3.none hf
    walk_at "st"
    rw [show ((n : Int)).toNat = n by omega]
    refine forW_range (fun i σ' H' => ∃ v2, σ' = [some (.int n), some (.ref p), some (.ref ch), v, some (.ref f), some (.int (Lay.sI (fun j => (if min j (nx j) < (i : Int) then 1 else 0) - (if max j (nx j) < (i : Int) then 1 else 0)) 1 (n - 1))), v2] ∧ Ext H H' ∧ H' ch = some (.lst ((List.range (n + 1)).map fun (q : Nat) => V.int (Lay.sI (chg nx q) 1 (n - 1)))) ∧
      H' f = some (.lst ((List.range i).map fun (q : Nat) => V.int (Lay.load nx n q)))) ⟨none, ?_, e3.trans e4, e4 _ _ h3, h4⟩ ?_ ?_
    · have z : Lay.sI (fun j => (if min j (nx j) < ((0 : Nat) : Int) then 1 else 0) - (if max j (nx j) < ((0 : Nat) : Int) then 1 else 0)) 1 (n - 1) = Lay.sI (fun _ => 0) 1 (n - 1) := Lay.sI_congr fun j j1 j2 => by
        obtain ⟨_, p0, _⟩ := hpar j.toNat (by omega) (by omega)
        rw [Int.toNat_of_nonneg (by omega)] at p0
        rw [if_neg (by omega), if_neg (by omega)]
        rfl
      rw [z, Lay.sI_zero]
      rfl
    · rintro i σ' H5 hi ⟨v2, rfl, e5, h5, h6⟩
      walk_at "st"
      rw [Int.zero_add]
      refine r_atL (sqL h5) (atI_nat (j := i) (v := .int (Lay.sI (chg nx i) 1 (n - 1))) ?_) ?_
      · rw [List.getElem?_map, List.getElem?_range (by omega)]
        rfl
      walk_at "st"
      refine ⟨.inl ⟨rfl, _, sqL h6⟩, ?_⟩
      walk_at "st"
      rw [sI_chg]
      refine r_app h6 (by rw [List.length_map, List.length_range]; omega) (fun H6 h7 n7 => ?_)
      have nfc : ch ≠ f := ne_of_none h3 hf
      refine ⟨some (.int (i : Int)), ?_, mut_ext e5 hfH n7, stay n7 nfc h5, ?_⟩
      · rw [Int.natCast_add]
        rfl
      · rw [h7, List.range_succ, List.map_append]
        rw [sI_cov]
        rfl
    · rintro σ' H5 ⟨v2, rfl, e5, h5, h6⟩
      walk_at "st"
      exact k f H5 hfH e5 h6

end
end K27
set_option maxRecDepth 100000
set_option maxHeartbeats 4000000
namespace K27
open PySem PySem.Spec PyProof.Rows L2 L3
local macro_rules | `(tactic| walk_at "s1") => `(tactic| first
  | with_reducible refine r_seq ?_
  | with_reducible refine r_asgN ?_
  | with_reducible refine r_ret ?_
  | with_reducible refine r_next ?_
  | ((with_reducible refine' r_var ?hv ?_); (case hv => exact rfl))
  | with_reducible refine r_c ?_
  | with_reducible refine r_op ?_
  | with_reducible refine r_cons ?_
  | with_reducible refine r_nil ?_
  | with_reducible refine r_plusI ?_
  | with_reducible refine r_I0 ?_
  | with_reducible refine r_test ?_
  | with_reducible refine r_bl ?_
  | with_reducible refine r_ifS ?_
  | with_reducible refine r_cb ?_
  | with_reducible refine r_callS ?_
  | with_reducible refine r_and ?_
  | with_reducible refine r_or ?_
  | with_reducible refine r_not ?_
  | with_reducible refine r_B ?_
  | ((with_reducible refine' r_aug ?hv ?_); (case hv => exact rfl))
  | with_reducible refine r_augS ?_
  | with_reducible refine r_ipI ?_
  | with_reducible refine r_asg ?_
  | with_reducible refine r_sub ?_
  | with_reducible refine r_brk ?_
  | with_reducible refine r_isN1 ?_
  | with_reducible refine r_notN1 ?_
  | with_reducible refine r_intI ?_
  | with_reducible refine r_abs ?_
  | with_reducible refine r_min ?_
  | with_reducible refine r_max ?_
  | ((with_reducible refine' r_mod ?hz ?_); (case hz => omega))
  | ((with_reducible refine' r_pow ?hz ?_); (case hz => exact ⟨by decide, by decide, by decide⟩))
  | ((with_reducible refine' r_rg1 ?hz ?_); (case hz => omega))
  | ((with_reducible refine' r_rg2 ?hz ?_); (case hz => omega))
  | ((with_reducible refine' r_newL ?hz ?_); (case hz => exact Nat.le_of_ble_eq_true rfl))
  | ((with_reducible refine' r_newT ?hz ?_); (case hz => exact Nat.le_of_ble_eq_true rfl))
  | with_reducible refine r_for ?_
  | with_reducible refine r_lc ?_
  | with_reducible refine r_iR1 ?_
  | with_reducible refine r_iR2 ?_
  | with_reducible refine r_iL ?_
  | with_reducible refine r_iT ?_
  | with_reducible refine r_gname ?_
  | with_reducible refine r_gcons ?_
  | with_reducible refine r_gnil ?_
  | with_reducible refine r_yes ?_
  | with_reducible refine r_mkO ?_
  | with_reducible refine r_cont ?_
  | with_reducible refine r_drop ?_
  | with_reducible refine r_retN ?_
  | with_reducible refine r_ifC ?_
  | with_reducible refine r_ifI ?_
  | with_reducible refine r_if ?_
  | with_reducible refine r_un ?_
  | with_reducible refine r_neg ?_
  | with_reducible refine r_andV ?_
  | with_reducible refine r_orV ?_
  | with_reducible refine r_notV ?_
  | with_reducible refine r_tup ?_
  | with_reducible refine r_lst ?_
  | with_reducible refine r_bm ?_
  | with_reducible refine r_bm0 ?_
  | with_reducible refine r_sl ?_
  | with_reducible refine r_chain ?_
  | with_reducible refine r_listDn ?_
  | with_reducible refine r_listRg2 ?_
  | with_reducible refine r_revL ?_
  | with_reducible refine r_noPart ?_
  | with_reducible refine r_part ?_
  | with_reducible refine r_int ?_
  | ((with_reducible refine' r_sameS ?hs ?_); (case hs => exact rfl))
  | ((with_reducible refine' r_otherS ?hs ?_); (case hs => exact rfl))
  | with_reducible refine ite_t ?_
  | with_reducible refine ite_f ?_
  | with_reducible refine ite_nt ?_
  | with_reducible refine ite_nf ?_)
local macro_rules | `(tactic| walk_at "st") => `(tactic| repeat (walk_at "s1"))

section
variable {P : Program} {w : World} {K : PySem.W.Frag} {mg : Str → Option Value} {base : Heap}
/-! ### told: chains, loads, the judgement -/
noncomputable def chV (nx : Int → Int) (n : Nat) : List Int := (List.range (n - 1)).map fun (k : Nat) => Lay.cl nx n ((k : Int) + 1)
def ldI (nx : Int → Int) (n : Nat) : List Int := (List.range n).map fun (q : Nat) => Lay.load nx n q
theorem ldV_eq (nx : Int → Int) (n : Nat) : ldV nx n = (ldI nx n).map V.int := by unfold ldV ldI; rw [List.map_map]; rfl
theorem clL_cut (nx : Int → Int) (n : Nat) : ((clL nx n).drop 1).take (n - 1) = (chV nx n).map V.int := by
  apply List.ext_getElem?
  intro i
  have hl : (clL nx n).length = n + 1 := by unfold clL; simp
  by_cases c : i < n - 1
  · rw [List.getElem?_take, if_pos c, List.getElem?_drop, clL_at (by omega)]
    unfold chV
    rw [List.getElem?_map, List.getElem?_map, List.getElem?_range c]
    show some (V.int (Lay.cl nx n ((1 + i : Nat) : Int))) = some (V.int (Lay.cl nx n ((i : Int) + 1)))
    rw [show ((1 + i : Nat) : Int) = (i : Int) + 1 by omega]
  · rw [List.getElem?_eq_none (by rw [List.length_take, List.length_drop, hl]; omega), List.getElem?_eq_none (by unfold chV; simp; omega)]
theorem WP.non {n : Nat} {ds : List PyData} (h : WP n ds .non) : ds.length = n - 1 ∧ ∀ j : Nat, 1 ≤ j → j < n → 0 ≤ Lay.cl (nxd n ds) n j := by
  rcases h with ⟨_, h⟩ | ⟨_, j, _, _, _, h⟩ | ⟨h1, h2, _⟩
  · cases h
  · cases h
  · exact ⟨h1, h2⟩
theorem WP.split {n : Nat} {ds : List PyData} {o : V} (h : WP n ds o) : o = .non ∨ ∃ i, o = .int i := by
  rcases h with ⟨_, h⟩ | ⟨_, j, _, _, _, h⟩ | ⟨h1, h2, h⟩
  · exact .inr ⟨_, h⟩
  · exact .inr ⟨_, h⟩
  · exact .inl h
def Data (K : PySem.W.Frag) (H : Hp) (p : Addr) (ds : List PyData) : Prop := ∃ xs, SqL K H p xs ∧ DpAll K H xs ds
theorem Data.ext {K : PySem.W.Frag} {H H' : Hp} {p : Addr} {ds : List PyData} (h : Data K H p ds) (e : Ext H H') : Data K H' p ds := by
  obtain ⟨xs, h1, h2⟩ := h
  exact ⟨xs, e.l h1, e.dps _ h2⟩
def spTells (K : PySem.W.Frag) (f : (Int → Int) → Nat → List Int) : Sp := fun vs H Q E => ∃ (n : Int) (p : Addr) (ds : List PyData), vs = [.int n, .ref p] ∧ Data K H p ds ∧ (400 < n → Bad K E H "TooMany" "layout") ∧ (n ≤ 400 → n < 1 → Bad K E H "BadLayout" "parts") ∧
  (1 ≤ n → n ≤ 400 → (∀ i, WP n.toNat ds (.int i) → Bad K E H "BadLayout" "parent") ∧ (WP n.toNat ds .non → ∀ q H', H q = none → Ext H H' → H' q = some (.lst ((f (nxd n.toNat ds) n.toNat).map V.int)) → Q (.ref q) H'))
theorem bad_later {K : PySem.W.Frag} {E : XK} {H H1 : Hp} {C what : Str} (b : Bad K E H C what) (e : Ext H H1) : Bad K E H1 C what := fun d H' hd e1 h => b d H' (e.none hd) (e.trans e1) h
theorem sc_chain_lengths : FnScope ["n", "parents"] ["n", "parents"] (defScope s_chain_lengths) := ⟨rfl, rfl, rfl, by decide +kernel, rfl, by decide +kernel, by decide +kernel⟩
theorem ok_chain_lengths (T : Txt w K mg) : CalG P w K mg base 7 "chain_lengths" ["n", "parents"] (spTells K chV) := by
  have c_BadLayout : ErrI P w K mg base "BadLayout" ["self", "what"] _ := ci_BadLayout T
  have c_check_parts := ok_check_parts (P := P) (base := base) T
  have c_wrong_parent := ok_wrong_parent (P := P) (base := base) T
  have c_chains_to := ok_chains_to (P := P) (base := base) T
  refine calG_of T.g_chain_lengths T.d_chain_lengths sc_chain_lengths (fun _ _ _ _ _ _ _ us hl => match us, hl with | [_, _], _ => rfl) (fun vs H Q E h => by obtain ⟨_, _, _, rfl, _⟩ := h; rfl) (fun cdv A outer s H vs Q E hr h => ?_)
  have nd := sc_chain_lengths.nd
  have hu := hu64 hr
  obtain ⟨n, p, ds, rfl, ⟨xs, hp, hd⟩, b1, b2, k⟩ := h
  refine ⟨_, (pss_cons (ps_expr (pe_cal c_check_parts hr (by omega) (fun σ => L2N.passAt (L2N.takes_of rfl rfl rfl rfl) σ) (pa_cons (pv 0) pa_nil)))
        (pss_cons (ps_if (pt_cmpR op_notN1 (pe_cal c_wrong_parent hr (by omega) (fun σ => L2N.passAt (L2N.takes_of rfl rfl rfl rfl) σ) (pa_cons (pv 0) (pa_cons (pv 1) pa_nil))) pe_non (nomark _)) (pss_one (L2N.ps_raise rfl (L2N.takes_of rfl rfl rfl rfl) (pmk_errI T.e_BadLayout c_BadLayout hr (by decide) T.g_BadLayout (pa_cons pe_str pa_nil)))) pss_nil)
        (pss_one (ps_ret (pe_slice (slK (K := K)) (pe_cal c_chains_to hr (by omega) (fun σ => L2N.passAt (L2N.takes_of rfl rfl rfl rfl) σ) (pa_cons (pv 0) (pa_cons (pv 1) pa_nil))) (po_some pe_int) (po_some (pv 0))))))), ?_⟩
  walk_at "st"
  refine ⟨n, rfl, b1, b2, fun n1 n2 => ?_⟩
  obtain ⟨b3, k⟩ := k n1 n2
  obtain ⟨n, rfl⟩ : ∃ m : Nat, n = m := ⟨n.toNat, by omega⟩
  rw [Int.toNat_natCast] at b3 k
  walk_at "st"
  refine ⟨n, p, xs, ds, rfl, ⟨by omega, by omega⟩, hp, hd, fun o H1 hw e1 => ?_⟩
  walk_at "st"
  rcases hw.split with rfl | ⟨i, rfl⟩
  · refine ite_n (fun z => absurd rfl z) (fun _ => ?_)
    walk_at "st"
    obtain ⟨hl, hall⟩ := hw.non
    refine ⟨n, p, xs, nxd n ds, rfl, ⟨by omega, by omega⟩, e1.l hp, par_of hd hl hall, fun q H2 hq e2 h2 => ?_⟩
    walk_at "st"
    refine r_slL (sqL h2) (fun q2 H3 hq2 e3 h3 => ?_)
    rw [show (1 : Int) = ((1 : Nat) : Int) from rfl, cut_at, clL_cut] at h3
    exact k hw q2 H3 ((e1.trans e2).none hq2) (e1.trans (e2.trans e3)) h3
  · refine ite_n (fun _ => ?_) (fun z => nomatch z)
    walk_at "st"
    exact r_mk1 (bad_later (b3 i hw) e1)
theorem sc_part_loads : FnScope ["n", "parents"] ["n", "parents"] (defScope s_part_loads) := ⟨rfl, rfl, rfl, by decide +kernel, rfl, by decide +kernel, by decide +kernel⟩
theorem ok_part_loads (T : Txt w K mg) : CalG P w K mg base 7 "part_loads" ["n", "parents"] (spTells K ldI) := by
  have c_BadLayout : ErrI P w K mg base "BadLayout" ["self", "what"] _ := ci_BadLayout T
  have c_check_parts := ok_check_parts (P := P) (base := base) T
  have c_wrong_parent := ok_wrong_parent (P := P) (base := base) T
  have c_loads_of := ok_loads_of (P := P) (base := base) T
  refine calG_of T.g_part_loads T.d_part_loads sc_part_loads (fun _ _ _ _ _ _ _ us hl => match us, hl with | [_, _], _ => rfl) (fun vs H Q E h => by obtain ⟨_, _, _, rfl, _⟩ := h; rfl) (fun cdv A outer s H vs Q E hr h => ?_)
  have nd := sc_part_loads.nd
  have hu := hu64 hr
  obtain ⟨n, p, ds, rfl, ⟨xs, hp, hd⟩, b1, b2, k⟩ := h
  refine ⟨_, (pss_cons (ps_expr (pe_cal c_check_parts hr (by omega) (fun σ => L2N.passAt (L2N.takes_of rfl rfl rfl rfl) σ) (pa_cons (pv 0) pa_nil)))
        (pss_cons (ps_if (pt_cmpR op_notN1 (pe_cal c_wrong_parent hr (by omega) (fun σ => L2N.passAt (L2N.takes_of rfl rfl rfl rfl) σ) (pa_cons (pv 0) (pa_cons (pv 1) pa_nil))) pe_non (nomark _)) (pss_one (L2N.ps_raise rfl (L2N.takes_of rfl rfl rfl rfl) (pmk_errI T.e_BadLayout c_BadLayout hr (by decide) T.g_BadLayout (pa_cons pe_str pa_nil)))) pss_nil)
        (pss_one (ps_ret (pe_cal c_loads_of hr (by omega) (fun σ => L2N.passAt (L2N.takes_of rfl rfl rfl rfl) σ) (pa_cons (pv 0) (pa_cons (pv 1) pa_nil))))))), ?_⟩
  walk_at "st"
  refine ⟨n, rfl, b1, b2, fun n1 n2 => ?_⟩
  obtain ⟨b3, k⟩ := k n1 n2
  obtain ⟨n, rfl⟩ : ∃ m : Nat, n = m := ⟨n.toNat, by omega⟩
  rw [Int.toNat_natCast] at b3 k
  walk_at "st"
  refine ⟨n, p, xs, ds, rfl, ⟨by omega, by omega⟩, hp, hd, fun o H1 hw e1 => ?_⟩
  walk_at "st"
  rcases hw.split with rfl | ⟨i, rfl⟩
  · refine ite_n (fun z => absurd rfl z) (fun _ => ?_)
    walk_at "st"
    obtain ⟨hl, hall⟩ := hw.non
    refine ⟨n, p, xs, nxd n ds, rfl, ⟨by omega, by omega⟩, e1.l hp, par_of hd hl hall, fun q H2 hq e2 h2 => ?_⟩
    rw [ldV_eq] at h2
    exact k hw q H2 (e1.none hq) (e1.trans e2) h2
  · refine ite_n (fun _ => ?_) (fun z => nomatch z)
    walk_at "st"
    exact r_mk1 (bad_later (b3 i hw) e1)
/-- the judgement -/
inductive JA
  | ok
  | bad (s : Str) (i : Int)
def JA.d : JA → PyData
  | .ok => .none
  | .bad s i => .tuple [.str s, .int i]
theorem JA.small (a : JA) : smallD 2 a.d := by
  cases a with
  | ok => exact small_none _
  | bad s i => exact small_tup (by show 2 ≤ 100000; decide) (fun e he => by
      simp at he
      rcases he with rfl | rfl
      · exact small_str _ _
      · exact small_int _ _)
def Judge (n : Nat) (ds : List PyData) (d r : Int) (a : JA) : Prop := (∃ i, WP n ds (.int i) ∧ a = .bad "parent" i) ∨ (WP n ds .non ∧ ((∃ j : Nat, (1 ≤ j ∧ j < n) ∧ d < Lay.cl (nxd n ds) n j ∧ (∀ i : Nat, 1 ≤ i → i < j → Lay.cl (nxd n ds) n i ≤ d) ∧ a = .bad "chain" j) ∨
  ((∀ j : Nat, 1 ≤ j → j < n → Lay.cl (nxd n ds) n j ≤ d) ∧ ((∃ q : Nat, q < n ∧ r < Lay.load (nxd n ds) n q ∧ (∀ i : Nat, i < q → Lay.load (nxd n ds) n i ≤ r) ∧ a = .bad "load" q) ∨ ((∀ q : Nat, q < n → Lay.load (nxd n ds) n q ≤ r) ∧ a = .ok)))))
theorem Judge.uniq {n : Nat} {ds : List PyData} {d r : Int} {a b : JA} (h : Judge n ds d r a) (g : Judge n ds d r b) : a = b := by
  rcases h with ⟨i, h1, rfl⟩ | ⟨h1, h2⟩
  · rcases g with ⟨i', g1, rfl⟩ | ⟨g1, _⟩
    · have := h1.uniq g1
      injection this with this
      rw [this]
    · cases h1.uniq g1
  · rcases g with ⟨i', g1, rfl⟩ | ⟨g1, g2⟩
    · cases h1.uniq g1
    rcases h2 with ⟨j, h2, h3, h4, rfl⟩ | ⟨h2, h3⟩
    · rcases g2 with ⟨j', g2, g3, g4, rfl⟩ | ⟨g2, g3⟩
      · rcases Nat.lt_trichotomy j j' with c | c | c
        · have := g4 j h2.1 c; omega
        · rw [c]
        · have := h4 j' g2.1 c; omega
      · have := g2 j h2.1 h2.2; omega
    · rcases g2 with ⟨j', g2, g3', g4, rfl⟩ | ⟨g2, g3⟩
      · have := h2 j' g2.1 g2.2; omega
      · rcases h3 with ⟨q, h5, h6, h7, rfl⟩ | ⟨h5, rfl⟩
        · rcases g3 with ⟨q', g5, g6, g7, rfl⟩ | ⟨g5, rfl⟩
          · rcases Nat.lt_trichotomy q q' with c | c | c
            · have := g7 q c; omega
            · rw [c]
            · have := h7 q' c; omega
          · have := g5 q h5; omega
        · rcases g3 with ⟨q', g5, g6, g7, rfl⟩ | ⟨g5, rfl⟩
          · have := h5 q' g5; omega
          · rfl
theorem bad_dp {K : PySem.W.Frag} {q : Addr} {H : Hp} {s : Str} {i : Int} (h : H q = some (.tup [.str s, .int i])) : Dp K H (.ref q) (JA.bad s i).d := .tup (sqT h) (.cons (.str _) (.cons (.int _) .nil))
def spJudge (K : PySem.W.Frag) : Sp := fun vs H Q E => ∃ (n d r : Int) (p : Addr) (ds : List PyData), vs = [.int n, .int d, .int r, .ref p] ∧ Data K H p ds ∧ (400 < n → Bad K E H "TooMany" "layout") ∧ (n ≤ 400 → n < 1 → Bad K E H "BadLayout" "parts") ∧
  (1 ≤ n → n ≤ 400 → ∀ a x H', Judge n.toNat ds d r a → Ext H H' → Dp K H' x a.d → Q x H')
theorem sc_judge_layout : FnScope ["n", "d", "r", "parents", "wrong", "found", "joint", "part"] ["n", "d", "r", "parents"] (defScope s_judge_layout) := ⟨rfl, rfl, rfl, by decide +kernel, rfl, by decide +kernel, by decide +kernel⟩
theorem ok_judge_layout (T : Txt w K mg) : CalG P w K mg base 7 "judge_layout" ["n", "d", "r", "parents"] (spJudge K) := by
  have c_check_parts := ok_check_parts (P := P) (base := base) T
  have c_wrong_parent := ok_wrong_parent (P := P) (base := base) T
  have c_chains_to := ok_chains_to (P := P) (base := base) T
  have c_loads_of := ok_loads_of (P := P) (base := base) T
  refine calG_of T.g_judge_layout T.d_judge_layout sc_judge_layout (fun _ _ _ _ _ _ _ us hl => match us, hl with | [_, _, _, _], _ => rfl) (fun vs H Q E h => by obtain ⟨_, _, _, _, _, rfl, _⟩ := h; rfl) (fun cdv A outer s H vs Q E hr h => ?_)
  have nd := sc_judge_layout.nd
  have hu := hu64 hr
  obtain ⟨n, d, r, p, ds, rfl, ⟨xs, hp, hd⟩, b1, b2, k⟩ := h
  refine ⟨_, (pss_cons (ps_expr (pe_cal c_check_parts hr (by omega) (fun σ => L2N.passAt (L2N.takes_of rfl rfl rfl rfl) σ) (pa_cons (pv 0) pa_nil)))
        (pss_cons (ps_set (i := 4) nd rfl (Or.inl rfl) (pe_cal c_wrong_parent hr (by omega) (fun σ => L2N.passAt (L2N.takes_of rfl rfl rfl rfl) σ) (pa_cons (pv 0) (pa_cons (pv 3) pa_nil))))
        (pss_cons (ps_if (pt_cmpR op_notN1 (pv 4) pe_non (nomark _)) (pss_one (ps_ret (pe_tup (pa_cons pe_str (pa_cons (pv 4) pa_nil))))) pss_nil)
        (pss_cons (ps_set (i := 5) nd rfl (Or.inl rfl) (pe_cal c_chains_to hr (by omega) (fun σ => L2N.passAt (L2N.takes_of rfl rfl rfl rfl) σ) (pa_cons (pv 0) (pa_cons (pv 3) pa_nil))))
        (pss_cons (ps_for (passes_of rfl) rfl (pi_range2 (by rfl) T.f_range (pa_cons pe_int (pa_cons (pv 0) pa_nil))) (pg_name (i := 6) nd rfl (Or.inl rfl)) (pss_one (ps_if (pt_cmpR op_gt (pe_ix (ixK (K := K)) (pv 5) (pv 6) (fun _ _ => rfl)) (pv 1) (nomark _)) (pss_one (ps_ret (pe_tup (pa_cons pe_str (pa_cons (pv 6) pa_nil))))) pss_nil)))
        (pss_cons (ps_set (i := 5) nd rfl (Or.inl rfl) (pe_cal c_loads_of hr (by omega) (fun σ => L2N.passAt (L2N.takes_of rfl rfl rfl rfl) σ) (pa_cons (pv 0) (pa_cons (pv 3) pa_nil))))
        (pss_cons (ps_for (passes_of rfl) rfl (pi_range1 (by rfl) T.f_range (pa_cons (pv 0) pa_nil)) (pg_name (i := 7) nd rfl (Or.inl rfl)) (pss_one (ps_if (pt_cmpR op_gt (pe_ix (ixK (K := K)) (pv 5) (pv 7) (fun _ _ => rfl)) (pv 2) (nomark _)) (pss_one (ps_ret (pe_tup (pa_cons pe_str (pa_cons (pv 7) pa_nil))))) pss_nil)))
        (pss_one (ps_ret pe_non))))))))), ?_⟩
  walk_at "st"
  refine ⟨n, rfl, b1, b2, fun n1 n2 => ?_⟩
  have k := k n1 n2
  obtain ⟨n, rfl⟩ : ∃ m : Nat, n = m := ⟨n.toNat, by omega⟩
  rw [Int.toNat_natCast] at k
  walk_at "st"
  refine ⟨n, p, xs, ds, rfl, ⟨by omega, by omega⟩, hp, hd, fun o H1 hw e1 => ?_⟩
  walk_at "st"
  rcases hw.split with rfl | ⟨i, rfl⟩
  rotate_left
  · refine ite_n (fun _ => ?_) (fun z => nomatch z)
    walk_at "st"
    intro q H2 hq e2 h2
    exact k _ _ H2 (.inl ⟨i, hw, rfl⟩) (e1.trans e2) (bad_dp h2)
  refine ite_n (fun z => absurd rfl z) (fun _ => ?_)
  walk_at "st"
  obtain ⟨hl, hall⟩ := hw.non
  have hpar := par_of hd hl hall
  refine ⟨n, p, xs, nxd n ds, rfl, ⟨by omega, by omega⟩, e1.l hp, hpar, fun q H2 hq e2 h2 => ?_⟩
  have e02 := e1.trans e2
  walk_at "st"
  rw [show ((n : Int) - 1).toNat = n - 1 by omega]
  refine forW_range (fun i σ' H' => ∃ v, σ' = [some (.int n), some (.int d), some (.int r), some (.ref p), some .non, some (.ref q), v, none] ∧ H2 = H' ∧ ∀ j : Nat, 1 ≤ j → j < 1 + i → Lay.cl (nxd n ds) n j ≤ d) ⟨none, rfl, rfl, fun j h1 h2 => by omega⟩ ?_ ?_
  · rintro i σ' H' hi ⟨v, rfl, rfl, hall2⟩
    walk_at "st"
    rw [show (1 : Int) + (i : Int) = ((1 + i : Nat) : Int) by omega]
    refine r_atL (sqL h2) (atI_nat (clL_at (by omega))) ?_
    walk_at "st"
    refine ite_d (fun c => ?_) (fun c => ?_)
    · walk_at "st"
      intro t H3 ht e3 h3
      exact k _ _ H3 (.inr ⟨hw, .inl ⟨1 + i, by omega, c, fun i' a b => hall2 i' a b, rfl⟩⟩) (e02.trans e3) (bad_dp h3)
    · walk_at "st"
      refine ⟨_, rfl, rfl, fun j j1 j2 => ?_⟩
      by_cases e : j = 1 + i
      · subst e; omega
      · exact hall2 j j1 (by omega)
  rintro σ' H' ⟨v, rfl, rfl, hall2⟩
  have hall2' : ∀ j : Nat, 1 ≤ j → j < n → Lay.cl (nxd n ds) n j ≤ d := fun j a b => hall2 j a (by omega)
  walk_at "st"
  refine ⟨n, p, xs, nxd n ds, rfl, ⟨by omega, by omega⟩, e02.l hp, hpar, fun q2 H3 hq2 e3 h3 => ?_⟩
  have e03 := e02.trans e3
  walk_at "st"
  rw [show ((n : Int)).toNat = n by omega]
  refine forW_range (fun i σ' H' => ∃ v2, σ' = [some (.int n), some (.int d), some (.int r), some (.ref p), some .non, some (.ref q2), v, v2] ∧ H3 = H' ∧ ∀ j : Nat, j < i → Lay.load (nxd n ds) n j ≤ r) ⟨none, rfl, rfl, fun j h1 => by omega⟩ ?_ ?_
  · rintro i σ' H' hi ⟨v2, rfl, rfl, hall3⟩
    walk_at "st"
    rw [show (0 : Int) + (i : Int) = ((i : Nat) : Int) by omega]
    refine r_atL (sqL h3) (atI_nat (ldV_at hi)) ?_
    walk_at "st"
    refine ite_d (fun c => ?_) (fun c => ?_)
    · walk_at "st"
      intro t H4 ht e4 h4
      exact k _ _ H4 (.inr ⟨hw, .inr ⟨hall2', .inl ⟨i, hi, c, hall3, rfl⟩⟩⟩) (e03.trans e4) (bad_dp h4)
    · walk_at "st"
      refine ⟨_, rfl, rfl, fun j j1 => ?_⟩
      by_cases e : j = i
      · subst e; omega
      · exact hall3 j (by omega)
  rintro σ' H' ⟨v2, rfl, rfl, hall3⟩
  walk_at "st"
  exact k .ok _ H3 (.inr ⟨hw, .inr ⟨hall2', .inr ⟨hall3, rfl⟩⟩⟩) e03 .non

end
end K27
set_option maxRecDepth 100000
set_option maxHeartbeats 4000000
namespace K27
open PySem PySem.Spec PyProof.Rows L2 L3
local macro_rules | `(tactic| walk_at "s1") => `(tactic| first
  | with_reducible refine r_seq ?_
  | with_reducible refine r_asgN ?_
  | with_reducible refine r_ret ?_
  | with_reducible refine r_next ?_
  | ((with_reducible refine' r_var ?hv ?_); (case hv => exact rfl))
  | with_reducible refine r_c ?_
  | with_reducible refine r_op ?_
  | with_reducible refine r_cons ?_
  | with_reducible refine r_nil ?_
  | with_reducible refine r_plusI ?_
  | with_reducible refine r_I0 ?_
  | with_reducible refine r_test ?_
  | with_reducible refine r_bl ?_
  | with_reducible refine r_ifS ?_
  | with_reducible refine r_cb ?_
  | with_reducible refine r_callS ?_
  | with_reducible refine r_and ?_
  | with_reducible refine r_or ?_
  | with_reducible refine r_not ?_
  | with_reducible refine r_B ?_
  | ((with_reducible refine' r_aug ?hv ?_); (case hv => exact rfl))
  | with_reducible refine r_augS ?_
  | with_reducible refine r_ipI ?_
  | with_reducible refine r_asg ?_
  | with_reducible refine r_sub ?_
  | with_reducible refine r_brk ?_
  | with_reducible refine r_isN1 ?_
  | with_reducible refine r_notN1 ?_
  | with_reducible refine r_intI ?_
  | with_reducible refine r_abs ?_
  | with_reducible refine r_min ?_
  | with_reducible refine r_max ?_
  | ((with_reducible refine' r_mod ?hz ?_); (case hz => omega))
  | ((with_reducible refine' r_pow ?hz ?_); (case hz => exact ⟨by decide, by decide, by decide⟩))
  | ((with_reducible refine' r_rg1 ?hz ?_); (case hz => omega))
  | ((with_reducible refine' r_rg2 ?hz ?_); (case hz => omega))
  | ((with_reducible refine' r_newL ?hz ?_); (case hz => exact Nat.le_of_ble_eq_true rfl))
  | ((with_reducible refine' r_newT ?hz ?_); (case hz => exact Nat.le_of_ble_eq_true rfl))
  | with_reducible refine r_for ?_
  | with_reducible refine r_lc ?_
  | with_reducible refine r_iR1 ?_
  | with_reducible refine r_iR2 ?_
  | with_reducible refine r_iL ?_
  | with_reducible refine r_iT ?_
  | with_reducible refine r_gname ?_
  | with_reducible refine r_gcons ?_
  | with_reducible refine r_gnil ?_
  | with_reducible refine r_yes ?_
  | with_reducible refine r_mkO ?_
  | with_reducible refine r_cont ?_
  | with_reducible refine r_drop ?_
  | with_reducible refine r_retN ?_
  | with_reducible refine r_ifC ?_
  | with_reducible refine r_ifI ?_
  | with_reducible refine r_if ?_
  | with_reducible refine r_un ?_
  | with_reducible refine r_neg ?_
  | with_reducible refine r_andV ?_
  | with_reducible refine r_orV ?_
  | with_reducible refine r_notV ?_
  | with_reducible refine r_tup ?_
  | with_reducible refine r_lst ?_
  | with_reducible refine r_bm ?_
  | with_reducible refine r_bm0 ?_
  | with_reducible refine r_sl ?_
  | with_reducible refine r_chain ?_
  | with_reducible refine r_listDn ?_
  | with_reducible refine r_listRg2 ?_
  | with_reducible refine r_revL ?_
  | with_reducible refine r_noPart ?_
  | with_reducible refine r_part ?_
  | with_reducible refine r_int ?_
  | ((with_reducible refine' r_sameS ?hs ?_); (case hs => exact rfl))
  | ((with_reducible refine' r_otherS ?hs ?_); (case hs => exact rfl))
  | with_reducible refine ite_t ?_
  | with_reducible refine ite_f ?_
  | with_reducible refine ite_nt ?_
  | with_reducible refine ite_nf ?_)
local macro_rules | `(tactic| walk_at "st") => `(tactic| repeat (walk_at "s1"))

section
variable {P : Program} {w : World} {K : PySem.W.Frag} {mg : Str → Option Value} {base : Heap}
/-! ### draws -/
theorem sc__law_source : FnScope ["script", "at", "cell", "size", "small", "one"] ["script", "at"] (defScope s__law_source) := ⟨rfl, rfl, rfl, by decide +kernel, rfl, by decide +kernel, by decide +kernel⟩
theorem ok_law_source (T : Txt w K mg) : CalG P w K mg base 2 "_law_source" ["script", "at"] (spSource K) := by
  refine calG_of T.g__law_source T.d__law_source sc__law_source (fun _ _ _ _ _ _ _ us hl => match us, hl with | [_, _], _ => rfl) (fun vs H Q E h => by obtain ⟨c, k, n, rfl, _⟩ := h; rfl) (fun cdv A outer s H vs Q E hr h => ?_)
  have nd := sc__law_source.nd
  have hu := hu64 hr
  obtain ⟨a, ns, t, rfl, ha, hn, ht, k⟩ := h
  refine ⟨_, (C8.pss_cut (ps_set (i := 2) nd rfl (Or.inl rfl) (pe_ifExp (pt_cmpR op_lt (pv 1) (pe_callB (lenK (K := K)) (by rfl) T.f_len boot_len (pa_cons (pv 0) pa_nil)) (nomark _)) (pe_callTy cr_int (by rfl) T.f_int (by decide +kernel) (pa_cons (pe_ix (ixK (K := K)) (pv 0) (pv 1) (fun _ _ => rfl)) pa_nil)) (pe_op (plusK (K := K)) (pe_op op_timesB pe_int (pe_callB (sumK (K := K) rfl) (by rfl) T.f_sum (by decide +kernel) (pa_cons (pe_lc (own := [("one", 5)]) rfl nd (piL (K := K) (pe_slice (slK (K := K)) (pv 0) po_none (po_some pe_int))) (blkOk_by (N := ["script", "at", "cell", "size", "small", "one"]) (sc := defScope s__law_source) (by decide +kernel)) (fun _ _ _ _ _ => (pg_name (i := 5) nd rfl (Or.inl rfl))) (fun _ _ _ _ _ => pts_nil) (fun _ _ _ _ _ => (pe_op op_mod (pe_callTy cr_int (by rfl) T.f_int (by decide +kernel) (pa_cons (pv 5) pa_nil)) pe_int))) pa_nil))) pe_int)))
        (C8.pss_cut (ps_set (i := 3) nd rfl (Or.inl rfl) (pe_op op_mod (pe_callB cr_abs (by rfl) T.f_abs (by decide +kernel) (pa_cons (pv 2) pa_nil)) (pe_op op_timesB (pe_op op_pow pe_int pe_int) (pe_op op_pow pe_int pe_int))))
        (C8.pss_cut (ps_set (i := 4) nd rfl (Or.inl rfl) (pe_op op_mod (pe_callTy cr_int (by rfl) T.f_int (by decide +kernel) (pa_cons (pe_op (plusK (K := K)) (pe_op (plusK (K := K)) (pe_op (plusK (K := K)) (pe_op op_timesB pe_int (pv 3)) (pe_ifExp (pt_cmpR op_lt (pv 2) pe_int (nomark _)) pe_int pe_int)) (pe_op op_timesB (pv 1) pe_int)) pe_int) pa_nil)) pe_int))
        (pss_one (ps_ret (pe_lst (pa_cons (pe_ifExp (pt_cmpR op_ge (pv 3) (pe_op op_pow pe_int pe_int) (nomark _)) (pv 3) pe_int) (pa_cons (pe_op op_mod (pe_callTy cr_int (by rfl) T.f_int (by decide +kernel) (pa_cons (pe_op op_timesB (pe_op (plusK (K := K)) (pv 4) pe_int) (pe_op (plusK (K := K)) (pv 4) pe_int)) pa_nil)) pe_int) (pa_cons (pv 1) pa_nil))))))))), ?_⟩
  refine r_cut (fun σ' H' => ∃ cell : Int, σ' = [some (.ref a), some (.int t), some (.int cell), none, none, none] ∧ Ext H H') ?_ ?_
  · walk_at "st"
    refine r_lenL ha (by rw [List.length_map]) ?_
    walk_at "st"
    refine ite_d (fun c => ?_) (fun c => ?_)
    · obtain ⟨z, hz⟩ : ∃ z, ns[t]? = some z := ⟨ns[t]'(by omega), by simp⟩
      walk_at "st"
      refine r_atL ha (atI_nat (j := t) (v := .int z) (by rw [List.getElem?_map, hz]; rfl)) ?_
      walk_at "st"
      exact ⟨z, rfl, Ext.rfl⟩
    · walk_at "st"
      refine r_slL ha (fun l H1 hl e1 h1 => ?_)
      have hc : cutV (ns.map V.int) none (some 6) = (ns.take 6).map V.int := by rw [List.map_take]; exact cut_to _ 6
      rw [hc] at h1
      refine r_li (sqL h1) ?_
      intro Dl hD
      refine lcW_list (xs := (ns.take 6).map V.int) (LcP H1 Dl fun i => .int ((ns.take 6).getD i 0 % 999979)) (.start hD) (fun i H' _ p => p.e.l (sqL h1)) ?_ ?_
      · intro i x H' hx p
        obtain ⟨hi, rfl⟩ := ints_get hx
        have hl : (ns.take 6).length ≤ 63 := by rw [List.length_take]; omega
        walk_at "st"
        refine r_lcW rfl ?_
        walk_at "st"
        exact p.push hD (by omega) Ext.rfl rfl
      · intro H' p
        have hd := p.d
        rw [List.length_map, range_ints (ns.take 6) (fun z => z % 999979)] at hd
        walk_at "st"
        refine r_sum (sqL hd) ?_
        refine r_timesB (cmL (by decide) (by decide)) ?_
        walk_at "st"
        exact ⟨_, rfl, e1.trans p.e⟩
  rintro σ' H1 ⟨cell, rfl, e1⟩
  refine r_cut (fun σ' H' => ∃ size : Int, σ' = [some (.ref a), some (.int t), some (.int cell), some (.int size), none, none] ∧ Ext H H') ?_ ?_
  · walk_at "st"
    refine r_timesB (.inl (wide_mul (a := 250) (b := 250) bd128 bd128 (by decide) (by decide) (by decide))) ?_
    refine r_mod pos128 ?_
    exact ⟨_, rfl, e1⟩
  rintro σ' H2 ⟨size, rfl, e2⟩
  refine r_cut (fun σ' H' => ∃ small : Int, σ' = [some (.ref a), some (.int t), some (.int cell), some (.int size), some (.int small), none] ∧ Ext H H' ∧ 0 ≤ small ∧ small < 2147483629) ?_ ?_
  · walk_at "st"
    refine r_timesB (cmL (by decide) (by decide)) ?_
    walk_at "st"
    refine r_timesB (cmR (by decide) (by decide)) ?_
    walk_at "st"
    exact ⟨_, rfl, e2, bd31 _⟩
  rintro σ' H3 ⟨small, rfl, e3, s0, s1⟩
  walk_at "st"
  refine ite_d (fun c => ?_) (fun c => ?_)
  all_goals
    walk_at "st"
    refine r_timesB (cmR (by omega) (by omega)) ?_
    walk_at "st"
    intro p H4 hp e4 h4
    exact k p H4 (e3.none hp) (e3.trans e4) ⟨_, _, _, h4⟩

theorem sc__law_pick : FnScope ["source", "many", "found"] ["source", "many"] (defScope s__law_pick) := ⟨rfl, rfl, rfl, by decide +kernel, rfl, by decide +kernel, by decide +kernel⟩
theorem ok_law_pick (T : Txt w K mg) : CalG P w K mg base 2 "_law_pick" ["source", "many"] spPick := by
  refine calG_of T.g__law_pick T.d__law_pick sc__law_pick (fun _ _ _ _ _ _ _ us hl => match us, hl with | [_, _], _ => rfl) (fun vs H Q E h => by obtain ⟨c, k, rfl, _⟩ := h; rfl) (fun cdv A outer s H vs Q E hr h => ?_)
  have nd := sc__law_pick.nd
  have hu := hu64 hr
  obtain ⟨p, m, rfl, ⟨a, b, c, hp⟩, m0, m1, k⟩ := h
  refine ⟨_, (pss_cons (ps_if (pt_cmpR op_gt (pe_ix (ixK (K := K)) (pv 0) pe_int (fun _ _ => rfl)) pe_int (nomark _)) (pss_cons (ps_set (i := 2) nd rfl (Or.inl rfl) (pe_op op_mod (pe_callTy cr_int (by rfl) T.f_int (by decide +kernel) (pa_cons (pe_ix (ixK (K := K)) (pv 0) pe_int (fun _ _ => rfl)) pa_nil)) (pv 1)))
        (pss_cons (ps_asg (pe_op op_fdivW (pe_ix (ixK (K := K)) (pv 0) pe_int (fun _ _ => rfl)) (pv 1)) (pg_sub (pv 0) pe_int set_list))
        (pss_one (ps_ret (pv 2))))) pss_nil)
        (pss_cons (ps_augS (pv 0) pe_int (getLK (K := K)) pe_int ip_add set_list)
        (pss_cons (ps_asg (pe_op op_mod (pe_callTy cr_int (by rfl) T.f_int (by decide +kernel) (pa_cons (pe_op (plusK (K := K)) (pe_op op_timesB (pe_ix (ixK (K := K)) (pv 0) pe_int (fun _ _ => rfl)) pe_int) (pe_op op_timesB (pe_ix (ixK (K := K)) (pv 0) pe_int (fun _ _ => rfl)) pe_int)) pa_nil)) pe_int) (pg_sub (pv 0) pe_int set_list))
        (pss_one (ps_ret (pe_op op_mod (pe_op op_fdivW (pe_op op_mod (pe_callTy cr_int (by rfl) T.f_int (by decide +kernel) (pa_cons (pe_op (plusK (K := K)) (pe_op op_timesB (pe_ix (ixK (K := K)) (pv 0) pe_int (fun _ _ => rfl)) pe_int) (pe_op op_timesB (pe_ix (ixK (K := K)) (pv 0) pe_int (fun _ _ => rfl)) pe_int)) pa_nil)) pe_int) pe_int) (pv 1))))))), ?_⟩
  walk_at "st"
  refine r_atL (sqL hp) (atI_nat (j := 0) rfl) ?_
  walk_at "st"
  refine ite_d (fun c0 => ?_) (fun c0 => ?_)
  · walk_at "st"
    refine r_atL (sqL hp) (atI_nat (j := 0) rfl) ?_
    walk_at "st"
    refine r_atL (sqL hp) (atI_nat (j := 0) rfl) ?_
    walk_at "st"
    refine r_div (cdW m0 m1) ?_
    walk_at "st"
    refine r_setL (j := 0) hp rfl (by simp) (fun H1 h1 m1 => ?_)
    walk_at "st"
    exact k _ H1 (Int.emod_nonneg _ (by omega)) (Int.emod_lt_of_pos _ m0) ⟨_, _, _, h1⟩ m1
  · walk_at "st"
    refine r_getL (sqL hp) (by decide) rfl ?_
    walk_at "st"
    refine r_setL (j := 2) hp rfl (by simp) (fun H1 h1 n1 => ?_)
    walk_at "st"
    refine r_atL (sqL h1) (atI_nat (j := 1) rfl) ?_
    walk_at "st"
    refine r_timesB (cmR (by decide) (by decide)) ?_
    walk_at "st"
    refine r_atL (sqL h1) (atI_nat (j := 2) rfl) ?_
    walk_at "st"
    refine r_timesB (cmR (by decide) (by decide)) ?_
    walk_at "st"
    refine r_setL (j := 1) h1 rfl (by simp) (fun H2 h2 n2 => ?_)
    walk_at "st"
    refine r_atL (sqL h2) (atI_nat (j := 1) rfl) ?_
    walk_at "st"
    refine r_timesB (cmR (by decide) (by decide)) ?_
    walk_at "st"
    refine r_atL (sqL h2) (atI_nat (j := 2) rfl) ?_
    walk_at "st"
    refine r_timesB (cmR (by decide) (by decide)) ?_
    walk_at "st"
    refine r_div (cdW (by decide) (by decide)) ?_
    walk_at "st"
    exact k _ H2 (Int.emod_nonneg _ (by omega)) (Int.emod_lt_of_pos _ m0) ⟨_, _, _, h2⟩ fun b hb => (n2 b hb).trans (n1 b hb)

theorem sc__law_shuffled : FnScope ["source", "things", "left", "found"] ["source", "things"] (defScope s__law_shuffled) := ⟨rfl, rfl, rfl, by decide +kernel, rfl, by decide +kernel, by decide +kernel⟩
theorem ok_law_shuffled (T : Txt w K mg) : CalG P w K mg base 3 "_law_shuffled" ["source", "things"] (spShuf K) := by
  have c__law_pick := ok_law_pick (P := P) (base := base) T
  refine calG_of T.g__law_shuffled T.d__law_shuffled sc__law_shuffled (fun _ _ _ _ _ _ _ us hl => match us, hl with | [_, _], _ => rfl) (fun vs H Q E h => by obtain ⟨c, k, xs, rfl, _⟩ := h; rfl) (fun cdv A outer s H vs Q E hr h => ?_)
  have nd := sc__law_shuffled.nd
  have hu := hu64 hr
  obtain ⟨p, t, xs, rfl, hs, ht, hl, k⟩ := h
  refine ⟨_, (pss_cons (ps_set (i := 2) nd rfl (Or.inl rfl) (pe_callTy (listK (K := K)) (by rfl) T.f_list (by decide +kernel) (pa_cons (pv 1) pa_nil)))
        (pss_cons (ps_set (i := 3) nd rfl (Or.inl rfl) (pe_lst pa_nil))
        (pss_cons (ps_while (passes_of rfl) (pt_cmpR op_gt (pe_callB (lenK (K := K)) (by rfl) T.f_len boot_len (pa_cons (pv 2) pa_nil)) pe_int (nomark _)) (pss_one (ps_expr (peBM (K := K) (pe_bm PySem.F.plainAttrs_list PySem.F.slot_list_append PySem.F.type_list_append mt_append (pv 3) (pa_cons (peBM (K := K) (pe_bm PySem.F.plainAttrs_list PySem.F.slot_list_pop PySem.F.type_list_pop mt_popAt (pv 2) (pa_cons (pe_cal c__law_pick hr (by omega) (fun σ => L2N.passAt (L2N.takes_of rfl rfl rfl rfl) σ) (pa_cons (pv 0) (pa_cons (pe_callB (lenK (K := K)) (by rfl) T.f_len boot_len (pa_cons (pv 2) pa_nil)) pa_nil))) pa_nil))) pa_nil))))))
        (pss_one (ps_ret (pv 3)))))), ?_⟩
  walk_at "st"
  refine r_listL ht (fun l H1 hl1 e1 h1 => ?_)
  walk_at "st"
  intro f H2 hf e2 h2
  walk_at "st"
  have hf0 := e1.none hf
  refine whileW (fun μ σ' H' => ∃ (left done : List V), σ' = [some (.ref p), some (.ref t), some (.ref l), some (.ref f)] ∧ But p H H' ∧ Src H' p ∧ H' l = some (.lst left) ∧ H' f = some (.lst done) ∧ (done ++ left).Perm xs ∧ μ = left.length) xs.length
    ⟨xs, [], rfl, ext_but (e1.trans e2), (hs.ext e1).ext e2, e2 _ _ h1, h2, .refl _, rfl⟩ ?_
  rintro μ σ' H' ⟨left, done, rfl, b, s', hl', hf', pm, rfl⟩
  have hlen : done.length + left.length = xs.length := by rw [← pm.length_eq, List.length_append]
  have npl : p ≠ l := src_ne hs hl1
  have npf : p ≠ f := src_ne hs hf0
  have nlf : l ≠ f := ne_of_none h1 hf
  walk_at "st"
  refine r_lenL (sqL hl') rfl ?_
  walk_at "st"
  refine ite_d (fun c => r_N ?_) (fun c => ?_)
  · walk_at "st"
    refine ⟨.inl ⟨rfl, _, sqL hf'⟩, ?_⟩
    walk_at "st"
    refine ⟨.inl ⟨rfl, _, sqL hl'⟩, ?_⟩
    walk_at "st"
    refine r_lenL (sqL hl') rfl ?_
    walk_at "st"
    refine ⟨p, _, rfl, s', c, by omega, fun r H3 r0 r1 s3 n3 => ?_⟩
    walk_at "st"
    have hr : r.toNat < left.length := by omega
    have el : left[r.toNat]? = some left[r.toNat] := by simp [hr]
    refine r_popAt (j := r.toNat) (stay n3 npl.symm hl') (by omega) (by omega) el (fun H4 h4 n4 => ?_)
    walk_at "st"
    refine r_app (stay n4 nlf.symm (stay n3 npf.symm hf')) (by omega) (fun H5 h5 n5 => ?_)
    have s5 : Src H5 p := by
      obtain ⟨x, y, z, e⟩ := s3
      exact ⟨x, y, z, stay n5 npf (stay n4 npl e)⟩
    refine ⟨_, ?_, left.eraseIdx r.toNat, done ++ [left[r.toNat]], rfl, ((b.trans (.of n3)).mut hl1 n4).mut hf0 n5, s5, stay n5 nlf h4, h5, ?_, rfl⟩
    · rw [List.length_eraseIdx, if_pos hr]
      omega
    · rw [List.append_assoc]
      exact ((eraseIdx_perm el).append_left done).trans pm
  · walk_at "st"
    have e0 : left = [] := List.eq_nil_of_length_eq_zero (by omega)
    subst e0
    rw [List.append_nil] at pm
    exact k f H' done hf0 pm s' hf' b

theorem sc__law_same : FnScope ["answer", "due", "at", "key"] ["answer", "due"] (defScope s__law_same) := ⟨rfl, rfl, rfl, by decide +kernel, rfl, by decide +kernel, by decide +kernel⟩
theorem ok_law_same (T : Txt w K mg) : ∀ n, CalG P w K mg base (n + 2) "_law_same" ["answer", "due"] (spSame K n)
  | 0 => (calG_false T.g__law_same T.d__law_same (fun _ _ _ _ _ _ _ us hl => match us, hl with | [_, _], _ => rfl)).imp fun vs H Q E ⟨_, _, _, _, _, _, z, _⟩ => z.elim
  | n + 1 => by
    have c__law_same := ok_law_same T n
    refine calG_of T.g__law_same T.d__law_same sc__law_same (fun _ _ _ _ _ _ _ us hl => match us, hl with | [_, _], _ => rfl) (fun vs H Q E h => by obtain ⟨c, k, d, rfl, _⟩ := h; rfl) (fun cdv A outer s H vs Q E hr h => ?_)
    have nd := sc__law_same.nd
    have hu := hu64 hr
    obtain ⟨x, y, d, rfl, hx, hy, hd, k⟩ := h
    refine ⟨_, (pss_cons (ps_if (pt_val (pe_callB (isiTK (K := K)) (by rfl) T.f_isinstance (by decide +kernel) (pa_cons (pv 1) (pa_cons (pe_tup (pa_cons (pe_ty T.f_list) (pa_cons (pe_ty T.f_tuple) pa_nil))) pa_nil)))) (pss_cons (ps_if (PW.pt (pw_or (pt_not (pt_val (pe_callB (isiTK (K := K)) (by rfl) T.f_isinstance (by decide +kernel) (pa_cons (pv 0) (pa_cons (pe_tup (pa_cons (pe_ty T.f_list) (pa_cons (pe_ty T.f_tuple) pa_nil))) pa_nil))))) (pw_or (pt_cmpR (otherK (K := K) hu) (pe_callB (isiK (K := K)) (by rfl) T.f_isinstance (by decide +kernel) (pa_cons (pv 0) (pa_cons (pe_ty T.f_list) pa_nil))) (pe_callB (isiK (K := K)) (by rfl) T.f_isinstance (by decide +kernel) (pa_cons (pv 1) (pa_cons (pe_ty T.f_list) pa_nil))) (nomark _)) (pw_or1 (pt_cmpR (otherK (K := K) hu) (pe_callB (lenK (K := K)) (by rfl) T.f_len boot_len (pa_cons (pv 0) pa_nil)) (pe_callB (lenK (K := K)) (by rfl) T.f_len boot_len (pa_cons (pv 1) pa_nil)) (nomark _)))))) (pss_one (ps_ret pe_bl)) pss_nil)
        (pss_one (ps_ret (pe_callB (allK (K := K) rfl) (by rfl) T.f_all (by decide +kernel) (pa_cons (pe_lc (own := [("at", 2)]) rfl nd (pi_range1 (by rfl) T.f_range (pa_cons (pe_callB (lenK (K := K)) (by rfl) T.f_len boot_len (pa_cons (pv 1) pa_nil)) pa_nil)) (blkOk_by (N := ["answer", "due", "at", "key"]) (sc := defScope s__law_same) (by decide +kernel)) (fun _ _ _ _ _ => (pg_name (i := 2) nd rfl (Or.inl rfl))) (fun _ _ _ _ _ => pts_nil) (fun _ _ _ _ _ => (pe_cal c__law_same hr (by omega) passN (pa_cons (pe_ix (ixK (K := K)) (pv 0) (pv 2) (fun _ _ => rfl)) (pa_cons (pe_ix (ixK (K := K)) (pv 1) (pv 2) (fun _ _ => rfl)) pa_nil))))) pa_nil))))) pss_nil)
        (pss_cons (ps_if (pt_val (pe_callB (isiK (K := K)) (by rfl) T.f_isinstance (by decide +kernel) (pa_cons (pv 1) (pa_cons (pe_ty T.f_dict) pa_nil)))) pss_never pss_nil)
        (pss_cons (ps_if (PW.pt (pw_or (pt_cmpR op_isN1 (pv 1) pe_non (nomark _)) (pw_or1 (pt_cmpR op_isN1 (pv 0) pe_non (nomark _))))) (pss_one (ps_ret (pe_and (pe_cmpR op_isN1 (pv 1) pe_non (nomark _)) (pe_one (pe_cmpR op_isN1 (pv 0) pe_non (nomark _)))))) pss_nil)
        (pss_cons (ps_if (PW.pt (pw_or (pt_cmpR (otherK (K := K) hu) (pe_callB (isiK (K := K)) (by rfl) T.f_isinstance (by decide +kernel) (pa_cons (pv 1) (pa_cons (pe_ty T.f_bool) pa_nil))) (pe_callB (isiK (K := K)) (by rfl) T.f_isinstance (by decide +kernel) (pa_cons (pv 0) (pa_cons (pe_ty T.f_bool) pa_nil))) (nomark _)) (pw_or1 (pt_cmpR (otherK (K := K) hu) (pe_callB (isiK (K := K)) (by rfl) T.f_isinstance (by decide +kernel) (pa_cons (pv 1) (pa_cons (pe_ty T.f_str) pa_nil))) (pe_callB (isiK (K := K)) (by rfl) T.f_isinstance (by decide +kernel) (pa_cons (pv 0) (pa_cons (pe_ty T.f_str) pa_nil))) (nomark _))))) (pss_one (ps_ret pe_bl)) pss_nil)
        (pss_one (ps_ret (pe_and (pe_callB (isiTK (K := K)) (by rfl) T.f_isinstance (by decide +kernel) (pa_cons (pv 0) (pa_cons (pe_tup (pa_cons (pe_ty T.f_bool) (pa_cons (pe_ty T.f_int) (pa_cons (pe_ty T.f_str) pa_nil)))) pa_nil))) (pe_one (pe_cmpR (sameK (K := K) hu) (pv 0) (pv 1) (nomark _)))))))))), ?_⟩
    walk_at "st"
    intro t H1 ht e1 h1
    walk_at "st"
    refine r_isi2 (e1.dp d hy) h1 (by simp) (by simp) ?_
    walk_at "st"
    cases c : (isB (tyD d) "list" || isB (tyD d) "tuple") with
    | true =>
      walk_at "st"
      intro t2 H2 ht2 e2 h2
      have e12 := e1.trans e2
      walk_at "st"
      refine r_isi2 (e12.dp d hx) h2 (by simp) (by simp) ?_
      rw [c]
      walk_at "st"
      refine r_isi (b := "list") (e12.dp d hx) (by simp) ?_
      walk_at "st"
      refine r_isi (b := "list") (e12.dp d hy) (by simp) ?_
      walk_at "st"
      refine ite_n (fun z => absurd rfl z) (fun _ => ?_)
      obtain ⟨a, xs, rfl, ha, hxs⟩ := dp_seq (e12.dp d hx) c
      obtain ⟨b, ys, rfl, hb, hys⟩ := dp_seq (e12.dp d hy) c
      have lx := dps_len hxs
      have ly := dps_len hys
      walk_at "st"
      refine r_lenA ha (by rw [lx]) ?_
      walk_at "st"
      refine r_lenA hb (by rw [ly]) ?_
      walk_at "st"
      refine ite_n (fun z => absurd rfl z) (fun _ => ?_)
      walk_at "st"
      refine r_lenA hb (by rw [ly]) ?_
      have hsz := hd.1
      walk_at "st"
      intro Dl hD
      rw [Int.toNat_natCast]
      refine lcW_range (LcP H2 Dl fun _ => .bl true) (.start hD) ?_ ?_
      · intro i H3 hi p
        have hsz2 : i < 16777216 := by omega
        obtain ⟨x, ex, hx3⟩ := dps_get (i := i) hxs (List.getElem?_eq_getElem hi)
        obtain ⟨y, ey, hy3⟩ := dps_get (i := i) hys (List.getElem?_eq_getElem hi)
        walk_at "st"
        refine r_lcW rfl ?_
        walk_at "st"
        refine r_atA (p.e.sq ha) (by rw [Int.zero_add]; exact atI_nat ex) ?_
        walk_at "st"
        refine r_atA (p.e.sq hb) (by rw [Int.zero_add]; exact atI_nat ey) ?_
        walk_at "st"
        have hm : (itemsD d)[i] ∈ itemsD d := List.getElem_mem hi
        exact ⟨x, y, _, rfl, p.e.dp _ hx3, p.e.dp _ hy3, hd.2 _ hm, fun H4 e4 => p.pushB hD hsz2 e4 rfl⟩
      · intro H3 p
        have hd := p.d
        rw [map_bl] at hd
        walk_at "st"
        refine r_all (sqL hd) ?_
        rw [bools_all]
        exact k H3 (e12.trans p.e)
    | false =>
      walk_at "st"
      refine r_isi (e1.dp d hy) (by simp) ?_
      rw [dp_nodict hy]
      walk_at "st"
      have exy := dp_det hx hy c
      subst exy
      rcases dp_flat hx c with ⟨rfl, rfl⟩ | ⟨cb, nn, sc⟩
      · walk_at "st"
        refine ite_d (fun _ => ?_) (fun z => absurd rfl z)
        walk_at "st"
        refine ite_d (fun _ => ?_) (fun z => absurd rfl z)
        walk_at "st"
        exact k H1 e1
      · refine ite_d (fun z => absurd z nn) (fun _ => ?_)
        walk_at "st"
        refine ite_d (fun z => absurd z nn) (fun _ => ?_)
        walk_at "st"
        refine r_isi (e1.dp d hy) (by simp) ?_
        walk_at "st"
        refine r_isi (e1.dp d hy) (by simp) ?_
        walk_at "st"
        refine ite_n (fun z => absurd rfl z) (fun _ => ?_)
        walk_at "st"
        refine r_isi (e1.dp d hy) (by simp) ?_
        walk_at "st"
        refine r_isi (e1.dp d hy) (by simp) ?_
        walk_at "st"
        refine ite_n (fun z => absurd rfl z) (fun _ => ?_)
        walk_at "st"
        intro t2 H2 ht2 e2 h2
        walk_at "st"
        refine r_isi3 ((e1.trans e2).dp d hy) h2 (by simp) (by simp) (by simp) ?_
        rw [cb]
        walk_at "st"
        refine r_sameS sc ?_
        have e : decide (x = x) = true := decide_eq_true rfl
        rw [e]
        exact k H2 (e1.trans e2)

theorem scf_TooMany : FnScope ["error", "found"] ["error"] (defScope s__law_fault) := ⟨rfl, rfl, rfl, by decide +kernel, rfl, by decide +kernel, by decide +kernel⟩
theorem fault_TooMany (T : Txt w K mg) {fd : FuncData} (F : FunD K "_law_fault" "_law_fault" (defArgs s__law_fault) (defBody s__law_fault) (defScope s__law_fault) [] [] (He.ga K "_law_fault") fd) : FnP P w K mg base (L2N.CX P w) 1 (He.ga K "_law_fault") fd ["error"] (onP (spFlt K "TooMany" (["what"] : List Str))) := by
  refine fnP_of F scf_TooMany (fun p vs H Q E h => by obtain ⟨dd, kv, us, rfl, _⟩ := h; rfl) (fun p cdv A outer s H vs Q E hot hr h => ?_)
  have nd := scf_TooMany.nd
  obtain ⟨dd, kv, us, rfl, hz, hd, hus, k⟩ := h
  have hf : ∃ ws, p.2.data = .fields ws := by obtain ⟨ws, e, _⟩ := hot.2; exact ⟨ws, e⟩
  obtain ⟨u0, rfl, hu0⟩ : ∃ u0, us = [u0] ∧ kv.lookup ("what" : Str) = some u0 := by
    cases us with
    | nil => simp at hus
    | cons u r =>
      cases r with
      | nil => exact ⟨u, rfl, by simpa using hus⟩
      | cons v r => simp at hus
  have hp : p ∈ (L2H.cxH (L2N.CX P w) P w K mg base ["error", "found"] "_law_fault" (defScope s__law_fault) (He.ga K "_law_fault") cdv A outer s H E p).pn := List.mem_singleton.mpr rfl
  have hu : ((L2H.cxH (L2N.CX P w) P w K mg base ["error", "found"] "_law_fault" (defScope s__law_fault) (He.ga K "_law_fault") cdv A outer s H E p).A).units + 64 < cLine := by have := hr.un; show (A.deeper _).units + 64 < cLine; omega
  have hx : ("TooMany" : Str) ∈ errs := by simp [errs]
  refine ⟨_, (pss_cons (ps_set (i := 1) nd rfl (Or.inl rfl) (pe_lst pa_nil))
        (pss_cons (ps_if (pt_val (pe_callB (call_isP T.e_TooMany.e hz hf hp) (by rfl) T.f_isinstance (by decide +kernel) (pa_cons (pv 0) (pa_cons (pe_gl T.g_TooMany) pa_nil)))) (pss_one (ps_expr (peBM (K := K) (pe_bm PySem.F.plainAttrs_list PySem.F.slot_list_append PySem.F.type_list_append mt_append (pv 1) (pa_cons (pe_tup (pa_cons pe_str (pa_cons (pe_xp T.e_TooMany.f (T.e_TooMany.no _ (by simp)) hz hf hp (pv 0)) pa_nil))) pa_nil))))) pss_nil)
        (pss_cons (ps_if (pt_val (pe_callB (call_isP T.e_TooMany.e hz hf hp) (by rfl) T.f_isinstance (by decide +kernel) (pa_cons (pv 0) (pa_cons (pe_gl T.g_BadText) pa_nil)))) pss_never pss_nil)
        (pss_cons (ps_if (pt_val (pe_callB (call_isP T.e_TooMany.e hz hf hp) (by rfl) T.f_isinstance (by decide +kernel) (pa_cons (pv 0) (pa_cons (pe_gl T.g_BadFormat) pa_nil)))) pss_never pss_nil)
        (pss_cons (ps_if (pt_val (pe_callB (call_isP T.e_TooMany.e hz hf hp) (by rfl) T.f_isinstance (by decide +kernel) (pa_cons (pv 0) (pa_cons (pe_gl T.g_BadValue) pa_nil)))) pss_never pss_nil)
        (pss_cons (ps_if (pt_val (pe_callB (call_isP T.e_TooMany.e hz hf hp) (by rfl) T.f_isinstance (by decide +kernel) (pa_cons (pv 0) (pa_cons (pe_gl T.g_BadShape) pa_nil)))) pss_never pss_nil)
        (pss_cons (ps_if (pt_val (pe_callB (call_isP T.e_TooMany.e hz hf hp) (by rfl) T.f_isinstance (by decide +kernel) (pa_cons (pv 0) (pa_cons (pe_gl T.g_BadRow) pa_nil)))) pss_never pss_nil)
        (pss_cons (ps_if (pt_val (pe_callB (call_isP T.e_TooMany.e hz hf hp) (by rfl) T.f_isinstance (by decide +kernel) (pa_cons (pv 0) (pa_cons (pe_gl T.g_BadSet) pa_nil)))) pss_never pss_nil)
        (pss_cons (ps_if (pt_val (pe_callB (call_isP T.e_TooMany.e hz hf hp) (by rfl) T.f_isinstance (by decide +kernel) (pa_cons (pv 0) (pa_cons (pe_gl T.g_BadReader) pa_nil)))) pss_never pss_nil)
        (pss_cons (ps_if (pt_val (pe_callB (call_isP T.e_TooMany.e hz hf hp) (by rfl) T.f_isinstance (by decide +kernel) (pa_cons (pv 0) (pa_cons (pe_gl T.g_BadLayout) pa_nil)))) pss_never pss_nil)
        (pss_cons (ps_if (pt_val (pe_callB (call_isP T.e_TooMany.e hz hf hp) (by rfl) T.f_isinstance (by decide +kernel) (pa_cons (pv 0) (pa_cons (pe_gl T.g_BadCheck) pa_nil)))) pss_never pss_nil)
        (pss_cons (ps_if (pt_val (pe_callB (call_isP T.e_TooMany.e hz hf hp) (by rfl) T.f_isinstance (by decide +kernel) (pa_cons (pv 0) (pa_cons (pe_gl T.g_BadCode) pa_nil)))) pss_never pss_nil)
        (pss_cons (ps_if (pt_val (pe_callB (call_isP T.e_TooMany.e hz hf hp) (by rfl) T.f_isinstance (by decide +kernel) (pa_cons (pv 0) (pa_cons (pe_gl T.g_BadFeed) pa_nil)))) pss_never pss_nil)
        (pss_cons (ps_if (pt_val (pe_callB (call_isP T.e_TooMany.e hz hf hp) (by rfl) T.f_isinstance (by decide +kernel) (pa_cons (pv 0) (pa_cons (pe_gl T.g_BadEdit) pa_nil)))) pss_never pss_nil)
        (pss_cons (ps_if (pt_val (pe_callB (call_isP T.e_TooMany.e hz hf hp) (by rfl) T.f_isinstance (by decide +kernel) (pa_cons (pv 0) (pa_cons (pe_gl T.g_BadPatch) pa_nil)))) pss_never pss_nil)
        (pss_cons (ps_if (pt_val (pe_callB (call_isP T.e_TooMany.e hz hf hp) (by rfl) T.f_isinstance (by decide +kernel) (pa_cons (pv 0) (pa_cons (pe_gl T.g_BadPaper) pa_nil)))) pss_never pss_nil)
        (pss_cons (ps_if (pt_val (pe_callB (call_isP T.e_TooMany.e hz hf hp) (by rfl) T.f_isinstance (by decide +kernel) (pa_cons (pv 0) (pa_cons (pe_gl T.g_BadDeed) pa_nil)))) pss_never pss_nil)
        (pss_cons (ps_if (PW.pt (pw_or (pt_not (pt_val (pe_callB (call_isP T.e_TooMany.e hz hf hp) (by rfl) T.f_isinstance (by decide +kernel) (pa_cons (pv 0) (pa_cons (pe_gl T.g_OutsideError) pa_nil))))) (pw_or (pt_not (pt_val (pe_callB (call_isP T.e_TooMany.e hz hf hp) (by rfl) T.f_isinstance (by decide +kernel) (pa_cons (pv 0) (pa_cons (pe_ty T.f_ValueError) pa_nil))))) (pw_or1 (pt_cmpR (otherK (K := K) hu) (pe_callB (lenK (K := K)) (by rfl) T.f_len boot_len (pa_cons (pv 1) pa_nil)) pe_int (nomark _)))))) (pss_one (ps_ret (pe_tup (pa_cons pe_str pa_nil)))) pss_nil)
        (pss_one (ps_ret (pe_ix (ixK (K := K)) (pv 1) pe_int (fun _ _ => rfl)))))))))))))))))))))), ?_⟩
  walk_at "st"
  intro l H1 hl e1 h1
  have hd1 := e1 _ _ hd
  walk_at "st"
  refine r_isP hd1 (T.kits.yes hx) ?_
  walk_at "st"
  refine ⟨.inl ⟨rfl, _, sqL h1⟩, ?_⟩
  walk_at "st"
  refine r_xp ?_
  walk_at "st"
  refine ⟨rfl, _, _, hd1, hu0, ?_⟩
  walk_at "st"
  intro q H2 hq e2 h2
  walk_at "st"
  refine r_app (e2 _ _ h1) (by decide) (fun H3 h3 m3 => ?_)
  walk_at "st"
  have nl : dd ≠ l := ne_of_none hd hl
  have nq : q ≠ l := (ne_of_none h1 hq).symm
  have hd3 := mut_at m3 nl (e2 _ _ hd1)
  have hq3 := mut_at m3 nq h2
  have e3 : Ext H H3 := mut_ext (e1.trans e2) hl m3
  walk_at "st"
  refine r_isP hd3 (T.kits.no hx (by simp [errs]) (by decide)) ?_
  walk_at "st"
  refine r_isP hd3 (T.kits.no hx (by simp [errs]) (by decide)) ?_
  walk_at "st"
  refine r_isP hd3 (T.kits.no hx (by simp [errs]) (by decide)) ?_
  walk_at "st"
  refine r_isP hd3 (T.kits.no hx (by simp [errs]) (by decide)) ?_
  walk_at "st"
  refine r_isP hd3 (T.kits.no hx (by simp [errs]) (by decide)) ?_
  walk_at "st"
  refine r_isP hd3 (T.kits.no hx (by simp [errs]) (by decide)) ?_
  walk_at "st"
  refine r_isP hd3 (T.kits.no hx (by simp [errs]) (by decide)) ?_
  walk_at "st"
  refine r_isP hd3 (T.kits.no hx (by simp [errs]) (by decide)) ?_
  walk_at "st"
  refine r_isP hd3 (T.kits.no hx (by simp [errs]) (by decide)) ?_
  walk_at "st"
  refine r_isP hd3 (T.kits.no hx (by simp [errs]) (by decide)) ?_
  walk_at "st"
  refine r_isP hd3 (T.kits.no hx (by simp [errs]) (by decide)) ?_
  walk_at "st"
  refine r_isP hd3 (T.kits.no hx (by simp [errs]) (by decide)) ?_
  walk_at "st"
  refine r_isP hd3 (T.kits.no hx (by simp [errs]) (by decide)) ?_
  walk_at "st"
  refine r_isP hd3 (T.kits.no hx (by simp [errs]) (by decide)) ?_
  walk_at "st"
  refine r_isP hd3 (T.kits.no hx (by simp [errs]) (by decide)) ?_
  walk_at "st"
  refine r_isP hd3 (T.kits.kitO _ hx) ?_
  walk_at "st"
  refine r_isPV hd3 (T.kits.kitV _ hx) ?_
  walk_at "st"
  refine r_lenL (sqL h3) rfl ?_
  walk_at "st"
  refine ite_n (fun z => absurd rfl z) (fun _ => ?_)
  walk_at "st"
  refine r_atL (sqL h3) (atI_nat (j := 0) rfl) ?_
  exact k q H3 (e1.none hq) e3 hq3
theorem scf_BadLayout : FnScope ["error", "found"] ["error"] (defScope s__law_fault) := ⟨rfl, rfl, rfl, by decide +kernel, rfl, by decide +kernel, by decide +kernel⟩
theorem fault_BadLayout (T : Txt w K mg) {fd : FuncData} (F : FunD K "_law_fault" "_law_fault" (defArgs s__law_fault) (defBody s__law_fault) (defScope s__law_fault) [] [] (He.ga K "_law_fault") fd) : FnP P w K mg base (L2N.CX P w) 1 (He.ga K "_law_fault") fd ["error"] (onP (spFlt K "BadLayout" (["what"] : List Str))) := by
  refine fnP_of F scf_BadLayout (fun p vs H Q E h => by obtain ⟨dd, kv, us, rfl, _⟩ := h; rfl) (fun p cdv A outer s H vs Q E hot hr h => ?_)
  have nd := scf_BadLayout.nd
  obtain ⟨dd, kv, us, rfl, hz, hd, hus, k⟩ := h
  have hf : ∃ ws, p.2.data = .fields ws := by obtain ⟨ws, e, _⟩ := hot.2; exact ⟨ws, e⟩
  obtain ⟨u0, rfl, hu0⟩ : ∃ u0, us = [u0] ∧ kv.lookup ("what" : Str) = some u0 := by
    cases us with
    | nil => simp at hus
    | cons u r =>
      cases r with
      | nil => exact ⟨u, rfl, by simpa using hus⟩
      | cons v r => simp at hus
  have hp : p ∈ (L2H.cxH (L2N.CX P w) P w K mg base ["error", "found"] "_law_fault" (defScope s__law_fault) (He.ga K "_law_fault") cdv A outer s H E p).pn := List.mem_singleton.mpr rfl
  have hu : ((L2H.cxH (L2N.CX P w) P w K mg base ["error", "found"] "_law_fault" (defScope s__law_fault) (He.ga K "_law_fault") cdv A outer s H E p).A).units + 64 < cLine := by have := hr.un; show (A.deeper _).units + 64 < cLine; omega
  have hx : ("BadLayout" : Str) ∈ errs := by simp [errs]
  refine ⟨_, (pss_cons (ps_set (i := 1) nd rfl (Or.inl rfl) (pe_lst pa_nil))
        (pss_cons (ps_if (pt_val (pe_callB (call_isP T.e_BadLayout.e hz hf hp) (by rfl) T.f_isinstance (by decide +kernel) (pa_cons (pv 0) (pa_cons (pe_gl T.g_TooMany) pa_nil)))) pss_never pss_nil)
        (pss_cons (ps_if (pt_val (pe_callB (call_isP T.e_BadLayout.e hz hf hp) (by rfl) T.f_isinstance (by decide +kernel) (pa_cons (pv 0) (pa_cons (pe_gl T.g_BadText) pa_nil)))) pss_never pss_nil)
        (pss_cons (ps_if (pt_val (pe_callB (call_isP T.e_BadLayout.e hz hf hp) (by rfl) T.f_isinstance (by decide +kernel) (pa_cons (pv 0) (pa_cons (pe_gl T.g_BadFormat) pa_nil)))) pss_never pss_nil)
        (pss_cons (ps_if (pt_val (pe_callB (call_isP T.e_BadLayout.e hz hf hp) (by rfl) T.f_isinstance (by decide +kernel) (pa_cons (pv 0) (pa_cons (pe_gl T.g_BadValue) pa_nil)))) pss_never pss_nil)
        (pss_cons (ps_if (pt_val (pe_callB (call_isP T.e_BadLayout.e hz hf hp) (by rfl) T.f_isinstance (by decide +kernel) (pa_cons (pv 0) (pa_cons (pe_gl T.g_BadShape) pa_nil)))) pss_never pss_nil)
        (pss_cons (ps_if (pt_val (pe_callB (call_isP T.e_BadLayout.e hz hf hp) (by rfl) T.f_isinstance (by decide +kernel) (pa_cons (pv 0) (pa_cons (pe_gl T.g_BadRow) pa_nil)))) pss_never pss_nil)
        (pss_cons (ps_if (pt_val (pe_callB (call_isP T.e_BadLayout.e hz hf hp) (by rfl) T.f_isinstance (by decide +kernel) (pa_cons (pv 0) (pa_cons (pe_gl T.g_BadSet) pa_nil)))) pss_never pss_nil)
        (pss_cons (ps_if (pt_val (pe_callB (call_isP T.e_BadLayout.e hz hf hp) (by rfl) T.f_isinstance (by decide +kernel) (pa_cons (pv 0) (pa_cons (pe_gl T.g_BadReader) pa_nil)))) pss_never pss_nil)
        (pss_cons (ps_if (pt_val (pe_callB (call_isP T.e_BadLayout.e hz hf hp) (by rfl) T.f_isinstance (by decide +kernel) (pa_cons (pv 0) (pa_cons (pe_gl T.g_BadLayout) pa_nil)))) (pss_one (ps_expr (peBM (K := K) (pe_bm PySem.F.plainAttrs_list PySem.F.slot_list_append PySem.F.type_list_append mt_append (pv 1) (pa_cons (pe_tup (pa_cons pe_str (pa_cons (pe_xp T.e_BadLayout.f (T.e_BadLayout.no _ (by simp)) hz hf hp (pv 0)) pa_nil))) pa_nil))))) pss_nil)
        (pss_cons (ps_if (pt_val (pe_callB (call_isP T.e_BadLayout.e hz hf hp) (by rfl) T.f_isinstance (by decide +kernel) (pa_cons (pv 0) (pa_cons (pe_gl T.g_BadCheck) pa_nil)))) pss_never pss_nil)
        (pss_cons (ps_if (pt_val (pe_callB (call_isP T.e_BadLayout.e hz hf hp) (by rfl) T.f_isinstance (by decide +kernel) (pa_cons (pv 0) (pa_cons (pe_gl T.g_BadCode) pa_nil)))) pss_never pss_nil)
        (pss_cons (ps_if (pt_val (pe_callB (call_isP T.e_BadLayout.e hz hf hp) (by rfl) T.f_isinstance (by decide +kernel) (pa_cons (pv 0) (pa_cons (pe_gl T.g_BadFeed) pa_nil)))) pss_never pss_nil)
        (pss_cons (ps_if (pt_val (pe_callB (call_isP T.e_BadLayout.e hz hf hp) (by rfl) T.f_isinstance (by decide +kernel) (pa_cons (pv 0) (pa_cons (pe_gl T.g_BadEdit) pa_nil)))) pss_never pss_nil)
        (pss_cons (ps_if (pt_val (pe_callB (call_isP T.e_BadLayout.e hz hf hp) (by rfl) T.f_isinstance (by decide +kernel) (pa_cons (pv 0) (pa_cons (pe_gl T.g_BadPatch) pa_nil)))) pss_never pss_nil)
        (pss_cons (ps_if (pt_val (pe_callB (call_isP T.e_BadLayout.e hz hf hp) (by rfl) T.f_isinstance (by decide +kernel) (pa_cons (pv 0) (pa_cons (pe_gl T.g_BadPaper) pa_nil)))) pss_never pss_nil)
        (pss_cons (ps_if (pt_val (pe_callB (call_isP T.e_BadLayout.e hz hf hp) (by rfl) T.f_isinstance (by decide +kernel) (pa_cons (pv 0) (pa_cons (pe_gl T.g_BadDeed) pa_nil)))) pss_never pss_nil)
        (pss_cons (ps_if (PW.pt (pw_or (pt_not (pt_val (pe_callB (call_isP T.e_BadLayout.e hz hf hp) (by rfl) T.f_isinstance (by decide +kernel) (pa_cons (pv 0) (pa_cons (pe_gl T.g_OutsideError) pa_nil))))) (pw_or (pt_not (pt_val (pe_callB (call_isP T.e_BadLayout.e hz hf hp) (by rfl) T.f_isinstance (by decide +kernel) (pa_cons (pv 0) (pa_cons (pe_ty T.f_ValueError) pa_nil))))) (pw_or1 (pt_cmpR (otherK (K := K) hu) (pe_callB (lenK (K := K)) (by rfl) T.f_len boot_len (pa_cons (pv 1) pa_nil)) pe_int (nomark _)))))) (pss_one (ps_ret (pe_tup (pa_cons pe_str pa_nil)))) pss_nil)
        (pss_one (ps_ret (pe_ix (ixK (K := K)) (pv 1) pe_int (fun _ _ => rfl)))))))))))))))))))))), ?_⟩
  walk_at "st"
  intro l H1 hl e1 h1
  have hd1 := e1 _ _ hd
  walk_at "st"
  refine r_isP hd1 (T.kits.no hx (by simp [errs]) (by decide)) ?_
  walk_at "st"
  refine r_isP hd1 (T.kits.no hx (by simp [errs]) (by decide)) ?_
  walk_at "st"
  refine r_isP hd1 (T.kits.no hx (by simp [errs]) (by decide)) ?_
  walk_at "st"
  refine r_isP hd1 (T.kits.no hx (by simp [errs]) (by decide)) ?_
  walk_at "st"
  refine r_isP hd1 (T.kits.no hx (by simp [errs]) (by decide)) ?_
  walk_at "st"
  refine r_isP hd1 (T.kits.no hx (by simp [errs]) (by decide)) ?_
  walk_at "st"
  refine r_isP hd1 (T.kits.no hx (by simp [errs]) (by decide)) ?_
  walk_at "st"
  refine r_isP hd1 (T.kits.no hx (by simp [errs]) (by decide)) ?_
  walk_at "st"
  refine r_isP hd1 (T.kits.yes hx) ?_
  walk_at "st"
  refine ⟨.inl ⟨rfl, _, sqL h1⟩, ?_⟩
  walk_at "st"
  refine r_xp ?_
  walk_at "st"
  refine ⟨rfl, _, _, hd1, hu0, ?_⟩
  walk_at "st"
  intro q H2 hq e2 h2
  walk_at "st"
  refine r_app (e2 _ _ h1) (by decide) (fun H3 h3 m3 => ?_)
  walk_at "st"
  have nl : dd ≠ l := ne_of_none hd hl
  have nq : q ≠ l := (ne_of_none h1 hq).symm
  have hd3 := mut_at m3 nl (e2 _ _ hd1)
  have hq3 := mut_at m3 nq h2
  have e3 : Ext H H3 := mut_ext (e1.trans e2) hl m3
  walk_at "st"
  refine r_isP hd3 (T.kits.no hx (by simp [errs]) (by decide)) ?_
  walk_at "st"
  refine r_isP hd3 (T.kits.no hx (by simp [errs]) (by decide)) ?_
  walk_at "st"
  refine r_isP hd3 (T.kits.no hx (by simp [errs]) (by decide)) ?_
  walk_at "st"
  refine r_isP hd3 (T.kits.no hx (by simp [errs]) (by decide)) ?_
  walk_at "st"
  refine r_isP hd3 (T.kits.no hx (by simp [errs]) (by decide)) ?_
  walk_at "st"
  refine r_isP hd3 (T.kits.no hx (by simp [errs]) (by decide)) ?_
  walk_at "st"
  refine r_isP hd3 (T.kits.no hx (by simp [errs]) (by decide)) ?_
  walk_at "st"
  refine r_isP hd3 (T.kits.kitO _ hx) ?_
  walk_at "st"
  refine r_isPV hd3 (T.kits.kitV _ hx) ?_
  walk_at "st"
  refine r_lenL (sqL h3) rfl ?_
  walk_at "st"
  refine ite_n (fun z => absurd rfl z) (fun _ => ?_)
  walk_at "st"
  refine r_atL (sqL h3) (atI_nat (j := 0) rfl) ?_
  exact k q H3 (e1.none hq) e3 hq3
def faultL : List (Str × List Str) := [("TooMany", ["what"]), ("BadLayout", ["what"])]
theorem ok_fault (T : Txt w K mg) : FaultG P w K mg base faultL := by
  obtain ⟨fd, F⟩ := T.d__law_fault
  refine ⟨T.g__law_fault, F.kp, fd, fnP_any (fun x hx => ?_), F.bindsN fun _ _ _ _ _ _ us hl => match us, hl with | [_], _ => rfl⟩
  simp only [faultL, List.mem_cons, List.not_mem_nil, or_false] at hx
  rcases hx with rfl | rfl
  · exact fault_TooMany T F
  · exact fault_BadLayout T F
/-! ### the law's own count -/
def spLReach : Sp := fun vs H Q _ => ∃ (d r : Nat), vs = [.int d, .int r] ∧ d ≤ 5000 ∧ r ≤ 5000 ∧ Q (.int (Del.D d r : Nat)) H
theorem tmz (d r s : Nat) (hs : s ≤ min d r) : ((Del.tm d r s : Nat) : Int) * 2 * ((d : Int) - s) * ((r : Int) - s) / (((s : Int) + 1) * ((s : Int) + 1)) = ((Del.tm d r (s + 1) : Nat) : Int) := by
  have h := Del.tm_next d r s
  have e1 : ((d : Int) - s) = ((d - s : Nat) : Int) := by omega
  have e2 : ((r : Int) - s) = ((r - s : Nat) : Int) := by omega
  have e3 : ((s : Int) + 1) * ((s : Int) + 1) = (((s + 1) * (s + 1) : Nat) : Int) := by push_cast; rfl
  have e4 : ((Del.tm d r s : Nat) : Int) * 2 * ((d - s : Nat) : Int) * ((r - s : Nat) : Int) = ((Del.tm d r s * 2 * (d - s) * (r - s) : Nat) : Int) := by push_cast; rfl
  rw [e1, e2, e3, e4, h, ← Int.natCast_ediv, Nat.mul_div_cancel _ (Nat.mul_pos (by omega) (by omega))]
theorem sc__law_reach : FnScope ["d", "r", "found", "term", "s"] ["d", "r"] (defScope s__law_reach) := ⟨rfl, rfl, rfl, by decide +kernel, rfl, by decide +kernel, by decide +kernel⟩
theorem ok_law_reach (T : Txt w K mg) : CalG P w K mg base 2 "_law_reach" ["d", "r"] spLReach := by
  refine calG_of T.g__law_reach T.d__law_reach sc__law_reach (fun _ _ _ _ _ _ _ us hl => match us, hl with | [_, _], _ => rfl) (fun vs H Q E h => by obtain ⟨c, k, rfl, _⟩ := h; rfl) (fun cdv A outer s H vs Q E hr h => ?_)
  have nd := sc__law_reach.nd
  have hu := hu64 hr
  obtain ⟨d, r, rfl, hd, hr', k⟩ := h
  refine ⟨_, (pss_cons (ps_set (i := 2) nd rfl (Or.inl rfl) pe_int)
        (pss_cons (ps_set (i := 3) nd rfl (Or.inl rfl) pe_int)
        (pss_cons (ps_for (passes_of rfl) rfl (pi_range1 (by rfl) T.f_range (pa_cons (pe_op (plusK (K := K)) (pe_callB (cr_min2 rfl) (by rfl) T.f_min (by decide +kernel) (pa_cons (pv 0) (pa_cons (pv 1) pa_nil))) pe_int) pa_nil)) (pg_name (i := 4) nd rfl (Or.inl rfl)) (pss_cons (ps_set (i := 2) nd rfl (Or.inl rfl) (pe_op (plusK (K := K)) (pv 2) (pv 3)))
        (pss_one (ps_set (i := 3) nd rfl (Or.inl rfl) (pe_op op_fdivW (pe_op op_timesB (pe_op op_timesB (pe_op op_timesB (pv 3) pe_int) (pe_op op_sub (pv 0) (pv 4))) (pe_op op_sub (pv 1) (pv 4))) (pe_op op_timesB (pe_op (plusK (K := K)) (pv 4) pe_int) (pe_op (plusK (K := K)) (pv 4) pe_int)))))))
        (pss_one (ps_ret (pv 2)))))), ?_⟩
  walk_at "st"
  have em : (min (d : Int) (r : Int) + 1).toNat = min d r + 1 := by omega
  rw [em]
  refine forW_range (fun i σ' H' => ∃ v, σ' = [some (.int d), some (.int r), some (.int (Del.sm (Del.tm d r) i : Nat)), some (.int (Del.tm d r i : Nat)), v] ∧ H' = H) ⟨none, ?_, rfl⟩ ?_ ?_
  · simp [Del.sm, Del.tm, Del.ch_0]
    rfl
  · rintro i σ' H' hi ⟨v, rfl, rfl⟩
    have hi' : i ≤ min d r := by omega
    walk_at "st"
    refine r_timesB (cmR (by decide) (by decide)) ?_
    walk_at "st"
    refine r_timesB (cmR (by omega) (by omega)) ?_
    walk_at "st"
    refine r_timesB (cmR (by omega) (by omega)) ?_
    walk_at "st"
    refine r_timesB (cmR (by omega) (by omega)) ?_
    walk_at "st"
    have hq : (0 : Int) < ((0 + (i : Int)) + 1) * ((0 + (i : Int)) + 1) := Int.mul_pos (by omega) (by omega)
    have hq2 : ((0 + (i : Int)) + 1) * ((0 + (i : Int)) + 1) < 2 ^ 250 := by
      have : ((0 + (i : Int)) + 1) * ((0 + (i : Int)) + 1) ≤ 5001 * 5001 := Int.mul_le_mul (by omega) (by omega) (by omega) (by omega)
      omega
    refine r_div (cdW hq hq2) ?_
    refine ⟨some (.int (0 + (i : Int))), ?_, rfl⟩
    show [some (V.int d), some (V.int r), some (V.int _), some (V.int _), _] = _
    have e := tmz d r i hi'
    rw [← Int.zero_add (i : Int)] at e
    rw [e]
    rw [show Del.sm (Del.tm d r) (i + 1) = Del.sm (Del.tm d r) i + Del.tm d r i from rfl]
    rw [Int.natCast_add]
  · rintro σ' H' ⟨v, rfl, rfl⟩
    walk_at "st"
    rw [← Del.D_min]
    exact k

/-! ### the layout of the law -/
theorem Wt.push {mk : List V → HO} {par : Int → Int} {lev : Int → Nat} {n d r : Nat} {S : List Addr} {H : Hp} {ps : List (V × Tk)} {x : V} {t : Tk} (h : Wt mk par lev n d r S H ps) (a : TkAt mk H S x t) (o : TkOk par lev n d r t) : Wt mk par lev n d r S H (ps ++ [(x, t)]) := fun p hp => by
  rcases List.mem_append.mp hp with hp | hp
  · exact h p hp
  · rw [List.mem_singleton.mp hp]
    exact ⟨a, o⟩
theorem js_up (root s : Int) (a k : Nat) (h : k < a) : root + s * (((a - 1 - k : Nat) : Int) + 1) = (root + s * (a + 1 : Nat)) + (-s) * ((k : Nat) + 1 : Int) := by
  rw [Int.neg_mul, ← Int.sub_eq_add_neg, Int.add_sub_assoc, ← Int.mul_sub]
  congr 2
  omega
theorem js_n (n m : Nat) : (List.range m).map (fun (k : Nat) => V.int ((n : Int) - 1 - (0 + (k : Nat)))) = js n (-1) m := by
  unfold js
  refine List.map_congr_left fun i _ => ?_
  congr 1
  omega
def spLLay (K : PySem.W.Frag) : Sp := fun vs H Q _ => ∃ (n d : Nat) (par : Int → Int) (lev : Int → Nat) (r : Nat), vs = [.int n, .int d] ∧ (1 ≤ n ∧ n ≤ 400) ∧ (1 ≤ d ∧ d ≤ 6) ∧ Del.Least n d r ∧ Lay.Built par lev n d r ∧ ∀ p H', H p = none → Ext H H' → H' p = some (.lst ((parL par n).map V.int)) → Q (.ref p) H'
theorem sc__law_layout : FnScope ["n", "d", "r", "many", "parents", "left", "root", "joints", "deep", "load", "beyond", "at", "near", "k"] ["n", "d"] (defScope s__law_layout) := ⟨rfl, rfl, rfl, by decide +kernel, rfl, by decide +kernel, by decide +kernel⟩
theorem ok_law_layout (T : Txt w K mg) : CalG P w K mg base 4 "_law_layout" ["n", "d"] (spLLay K) := by
  have c__law_reach := ok_law_reach (P := P) (base := base) T
  refine calG_of T.g__law_layout T.d__law_layout sc__law_layout (fun _ _ _ _ _ _ _ us hl => match us, hl with | [_, _], _ => rfl) (fun vs H Q E h => by obtain ⟨_, _, _, _, _, rfl, _⟩ := h; rfl) (fun cdv A outer s H vs Q E hr h => ?_)
  have nd := sc__law_layout.nd
  have hu := hu64 hr
  obtain ⟨n, d, par, lev, r, rfl, ⟨hn1, hn2⟩, ⟨hd1, hd2⟩, hl, B, k⟩ := h
  have hrn := Del.least_le hd1 hl
  refine ⟨_, (pss_cons (ps_set (i := 2) nd rfl (Or.inl rfl) pe_int)
        (pss_cons (ps_while (passes_of rfl) (pt_cmpR op_lt (pe_cal c__law_reach hr (by omega) (fun σ => L2N.passAt (L2N.takes_of rfl rfl rfl rfl) σ) (pa_cons (pv 1) (pa_cons (pv 2) pa_nil))) (pv 0) (nomark _)) (pss_one (ps_set (i := 2) nd rfl (Or.inl rfl) (pe_op (plusK (K := K)) (pv 2) pe_int))))
        (pss_cons (ps_set (i := 3) nd rfl (Or.inl rfl) (pe_callB (cr_min2 rfl) (by rfl) T.f_min (by decide +kernel) (pa_cons (pe_op op_sub (pv 0) pe_int) (pa_cons (pe_op op_fdivW (pe_op op_sub (pe_cal c__law_reach hr (by omega) (fun σ => L2N.passAt (L2N.takes_of rfl rfl rfl rfl) σ) (pa_cons (pv 1) (pa_cons (pv 2) pa_nil))) pe_int) pe_int) pa_nil))))
        (pss_cons (ps_set (i := 4) nd rfl (Or.inl rfl) (pe_op op_timesB (pe_lst (pa_cons pe_int pa_nil)) (pe_op (plusK (K := K)) (pv 0) pe_int)))
        (pss_cons (ps_set (i := 5) nd rfl (Or.inl rfl) (pe_lst (pa_cons (pe_lst (pa_cons pe_int (pa_cons (pe_listRg rfl (by rfl) T.f_list (prg_2 (by rfl) T.f_range pe_int (pe_op (plusK (K := K)) (pv 3) pe_int))) (pa_cons (pv 1) (pa_cons (pv 2) pa_nil))))) (pa_cons (pe_lst (pa_cons (pv 0) (pa_cons (pe_lc (own := [("k", 13)]) rfl nd (pi_range1 (by rfl) T.f_range (pa_cons (pe_op op_sub (pe_op op_sub (pv 0) pe_int) (pv 3)) pa_nil)) (blkOk_by (N := ["n", "d", "r", "many", "parents", "left", "root", "joints", "deep", "load", "beyond", "at", "near", "k"]) (sc := defScope s__law_layout) (by decide +kernel)) (fun _ _ _ _ _ => (pg_name (i := 13) nd rfl (Or.inl rfl))) (fun _ _ _ _ _ => pts_nil) (fun _ _ _ _ _ => (pe_op op_sub (pe_op op_sub (pv 0) pe_int) (pv 13)))) (pa_cons (pv 1) (pa_cons (pv 2) pa_nil))))) pa_nil))))
        (pss_cons (ps_while (passes_of rfl) (pt_cmpR op_gt (pe_callB (lenK (K := K)) (by rfl) T.f_len boot_len (pa_cons (pv 5) pa_nil)) pe_int (nomark _)) (pss_cons (ps_asg (peBM0 (K := K) (pe_bm0 PySem.F.plainAttrs_list PySem.F.slot_list_pop PySem.F.type_list_pop mt_pop (pv 5))) (pgL (K := K) (pg_lst rfl (pgs_cons (pg_name (i := 6) nd rfl (Or.inl rfl)) (pgs_cons (pg_name (i := 7) nd rfl (Or.inr rfl)) (pgs_cons (pg_name (i := 8) nd rfl (Or.inl rfl)) (pgs_cons (pg_name (i := 9) nd rfl (Or.inl rfl)) pgs_nil)))))))
        (pss_one (ps_if (pt_cmpR op_gt (pe_callB (lenK (K := K)) (by rfl) T.f_len boot_len (pa_cons (pv 7) pa_nil)) pe_int (nomark _)) (pss_cons (ps_set (i := 10) nd rfl (Or.inl rfl) (pe_callB (cr_min2 rfl) (by rfl) T.f_min (by decide +kernel) (pa_cons (pe_op op_sub (pe_callB (lenK (K := K)) (by rfl) T.f_len boot_len (pa_cons (pv 7) pa_nil)) pe_int) (pa_cons (pe_op op_fdivW (pe_op op_sub (pe_cal c__law_reach hr (by omega) (fun σ => L2N.passAt (L2N.takes_of rfl rfl rfl rfl) σ) (pa_cons (pe_op op_sub (pv 8) pe_int) (pa_cons (pv 9) pa_nil))) pe_int) pe_int) pa_nil))))
        (pss_cons (ps_set (i := 11) nd rfl (Or.inr rfl) (pe_op op_sub (pe_op op_sub (pe_callB (lenK (K := K)) (by rfl) T.f_len boot_len (pa_cons (pv 7) pa_nil)) pe_int) (pv 10)))
        (pss_cons (ps_set (i := 12) nd rfl (Or.inl rfl) (pe_callB (cr_min2 rfl) (by rfl) T.f_min (by decide +kernel) (pa_cons (pv 11) (pa_cons (pe_op op_fdivW (pe_op op_sub (pe_cal c__law_reach hr (by omega) (fun σ => L2N.passAt (L2N.takes_of rfl rfl rfl rfl) σ) (pa_cons (pv 8) (pa_cons (pe_op op_sub (pv 9) pe_int) pa_nil))) pe_int) pe_int) pa_nil))))
        (pss_cons (ps_asg (pv 6) (pg_sub (pv 4) (pe_ix (ixK (K := K)) (pv 7) (pv 11) (fun _ _ => rfl)) set_list))
        (pss_cons (ps_expr (peBM (K := K) (pe_bm PySem.F.plainAttrs_list PySem.F.slot_list_append PySem.F.type_list_append mt_append (pv 5) (pa_cons (pe_lst (pa_cons (pv 6) (pa_cons (pe_slice (slK (K := K)) (pv 7) po_none (po_some (pv 12))) (pa_cons (pv 8) (pa_cons (pe_op op_sub (pv 9) pe_int) pa_nil))))) pa_nil))))
        (pss_cons (ps_expr (peBM (K := K) (pe_bm PySem.F.plainAttrs_list PySem.F.slot_list_append PySem.F.type_list_append mt_append (pv 5) (pa_cons (pe_lst (pa_cons (pe_ix (ixK (K := K)) (pv 7) (pv 11) (fun _ _ => rfl)) (pa_cons (pe_lc (own := [("k", 13)]) rfl nd (pi_range1 (by rfl) T.f_range (pa_cons (pe_op op_sub (pv 11) (pv 12)) pa_nil)) (blkOk_by (N := ["n", "d", "r", "many", "parents", "left", "root", "joints", "deep", "load", "beyond", "at", "near", "k"]) (sc := defScope s__law_layout) (by decide +kernel)) (fun _ _ _ _ _ => (pg_name (i := 13) nd rfl (Or.inl rfl))) (fun _ _ _ _ _ => pts_nil) (fun _ _ _ _ _ => (pe_ix (ixK (K := K)) (pv 7) (pe_op op_sub (pe_op op_sub (pv 11) pe_int) (pv 13)) (fun _ _ => rfl)))) (pa_cons (pe_op op_sub (pv 8) pe_int) (pa_cons (pe_op op_sub (pv 9) pe_int) pa_nil))))) pa_nil))))
        (pss_one (ps_expr (peBM (K := K) (pe_bm PySem.F.plainAttrs_list PySem.F.slot_list_append PySem.F.type_list_append mt_append (pv 5) (pa_cons (pe_lst (pa_cons (pe_ix (ixK (K := K)) (pv 7) (pv 11) (fun _ _ => rfl)) (pa_cons (pe_slice (slK (K := K)) (pv 7) (po_some (pe_op (plusK (K := K)) (pv 11) pe_int)) po_none) (pa_cons (pe_op op_sub (pv 8) pe_int) (pa_cons (pv 9) pa_nil))))) pa_nil))))))))))) pss_nil))))
        (pss_one (ps_ret (pe_slice (slK (K := K)) (pv 4) (po_some pe_int) (po_some (pv 0))))))))))), ?_⟩
  walk_at "st"
  refine whileW (fun μ σ' H' => ∃ r' : Nat, μ = r - r' ∧ r' ≤ r ∧ σ' = [some (.int n), some (.int d), some (.int r'), none, none, none, none, none, none, none, none, none, none, none] ∧ H = H') r ⟨0, rfl, Nat.zero_le _, rfl, rfl⟩ ?_
  rintro μ σ' H' ⟨r', rfl, hr'r, rfl, rfl⟩
  walk_at "st"
  refine ⟨d, r', rfl, by omega, by omega, ?_⟩
  walk_at "st"
  refine ite_d (fun c => r_N ?_) (fun c => ?_)
  · walk_at "st"
    have : r' < r := by
      refine Nat.lt_of_le_of_ne hr'r fun e => ?_
      subst e
      have := hl.1
      omega
    exact ⟨r - (r' + 1), by omega, r' + 1, rfl, this, rfl, rfl⟩
  have er : r' = r := by
    refine Nat.le_antisymm hr'r (Nat.le_of_not_lt fun c2 => ?_)
    have := hl.2 r' c2
    omega
  subst er
  walk_at "st"
  refine ⟨d, r', rfl, by omega, by omega, ?_⟩
  walk_at "st"
  refine r_div (cdW (by decide) (by decide)) ?_
  rw [half_eq]
  walk_at "st"
  have enear : min ((n : Int) - 1) ((Lay.hh d r' : Nat) : Int) = ((min (n - 1) (Lay.hh d r') : Nat) : Int) := by omega
  rw [enear]
  walk_at "st"
  intro p1 H3 hp1 e3 h3
  walk_at "st"
  refine r_repL h3 (by omega) (by omega) (by simp; omega) (fun pa H4 hpa e4 h4 => ?_)
  have hA0 := flat_len ((n : Int) + 1).toNat (V.int 0)
  walk_at "st"
  refine r_rg ⟨by omega, by omega, by omega, by omega, by omega⟩ (fun l1 H5 hl1 e5 h5 => ?_)
  rw [rg_js] at h5
  walk_at "st"
  intro q1 H6 hq1 e6 h6
  walk_at "st"
  intro l2 hl2
  rw [show ((n : Int) - 1 - ((min (n - 1) (Lay.hh d r') : Nat) : Int)).toNat = n - 1 - min (n - 1) (Lay.hh d r') by omega]
  refine lcW_range (LcP H6 l2 fun k => .int ((n : Int) - 1 - (0 + (k : Nat)))) (.start hl2) (fun i H' hi p => ?_) (fun H7 p7 => ?_)
  · walk_at "st"
    refine r_lcW rfl ?_
    walk_at "st"
    exact p.push hl2 (by omega) .rfl rfl
  have h7 := p7.d
  rw [js_n] at h7
  have e7 := p7.e
  walk_at "st"
  intro q2 H8 hq2 e8 h8
  walk_at "st"
  intro wl H9 hwl e9 h9
  walk_at "st"
  have e24 := e3.trans e4
  have e59 := e5.trans (e6.trans (e7.trans (e8.trans e9)))
  have e29 := e24.trans e59
  have hwl2 : H wl = none := ((e24.trans (e5.trans (e6.trans (e7.trans e8))))).none hwl
  have hpa2 : H pa = none := e3.none hpa
  have hpa9 : H9 pa = some (.lst (List.replicate ((n : Int) + 1).toNat [V.int 0]).flatten) := e59 _ _ h4
  have nwp : pa ≠ wl := ne_of_none (((e5.trans (e6.trans (e7.trans e8)))) _ _ h4) hwl
  obtain ⟨ok0, ok1⟩ := tk_start B hl.1 hn1
  have nS : ∀ {x : Addr}, H4 x = none → x ≠ wl → x ∉ [wl, pa] := fun {x} hx hw z => by
    rcases List.mem_cons.mp z with z | z
    · exact hw z
    · rw [List.mem_singleton.mp z, h4] at hx; cases hx
  have T0 : TkAt .lst H9 [wl, pa] (.ref q1) (tk0 n d r') := ⟨q1, l1, rfl, (e7.trans (e8.trans e9)) _ _ h6, (e6.trans (e7.trans (e8.trans e9))) _ _ h5, nS (e5.none hq1) (ne_of_none ((e7.trans e8) _ _ h6) hwl), nS hl1 (ne_of_none ((e6.trans (e7.trans e8)) _ _ h5) hwl)⟩
  have T1 : TkAt .lst H9 [wl, pa] (.ref q2) (tk1 n d r') := ⟨q2, l2, rfl, e9 _ _ h8, (e8.trans e9) _ _ h7, nS ((e5.trans (e6.trans e7)).none hq2) (ne_of_none h8 hwl), nS ((e5.trans e6).none hl2) (ne_of_none (e8 _ _ h7) hwl)⟩
  refine whileW (fun μ σ' H' => ∃ (ps : List (V × Tk)) (A : List V) (v1 v2 v3 v4 v5 v6 v7 : Option V), μ = tkMu (ps.map (·.2)) ∧ σ' = [some (.int n), some (.int d), some (.int r'), some (.int (min (n - 1) (Lay.hh d r') : Nat)), some (.ref pa), some (.ref wl), v1, v2, v3, v4, v5, v6, v7, none] ∧
      H' wl = some (.lst (ps.map (·.1))) ∧ H' pa = some (.lst A) ∧ A.length = n + 1 ∧ Arr par n 0 A (ps.map (·.2)) ∧ Wt .lst par lev n d r' [wl, pa] H' ps ∧ Ext H H' ∧ ps.length ≤ 2 + 3 * (tkMu [tk0 n d r', tk1 n d r'] - tkMu (ps.map (·.2))) ∧ tkMu (ps.map (·.2)) ≤ tkMu [tk0 n d r', tk1 n d r']) (tkMu [tk0 n d r', tk1 n d r'])
    ⟨[(.ref q1, tk0 n d r'), (.ref q2, tk1 n d r')], _, none, none, none, none, none, none, none, rfl, rfl, h9, hpa9, by rw [hA0]; omega, arr_start (d := d) (r := r') _ _ (by simp) (by simp), fun p hp => ?_, e29, by simp, Nat.le_refl _⟩ ?_
  · rcases List.mem_cons.mp hp with rfl | hp
    · exact ⟨T0, ok0⟩
    · rw [List.mem_singleton.mp hp]
      exact ⟨T1, ok1⟩
  have hmu0 : tkMu [tk0 n d r', tk1 n d r'] ≤ 3 * n + 5 := by
    unfold tkMu tk0 tk1
    simp only [List.map_cons, List.map_nil, List.sum_cons, List.sum_nil]
    omega
  rintro μ σ' H' ⟨ps, A, v1, v2, v3, v4, v5, v6, v7, rfl, rfl, hw, hpA, hA, arr, wt, eH, hps, hmu⟩
  walk_at "st"
  refine r_lenL (sqL hw) rfl ?_
  walk_at "st"
  rw [List.length_map]
  refine ite_d (fun c => r_N ?_) (fun c => ?_)
  · rcases List.eq_nil_or_concat ps with rfl | ⟨ps0, ⟨x, t⟩, rfl⟩
    · simp at c
    rw [List.concat_eq_append] at *
    rw [List.map_append] at hw arr hps hmu ⊢
    have wt0 : Wt .lst par lev n d r' [wl, pa] H' ps0 := fun p hp => wt p (List.mem_append_left _ hp)
    obtain ⟨⟨a, jl, ex, ha, hj, na, nj⟩, ok⟩ := wt (x, t) (List.mem_append_right _ List.mem_cons_self)
    dsimp only at ex ha hj ok
    subst ex
    have naw : a ≠ wl := fun z => na (by rw [z]; exact List.mem_cons_self)
    have njw : jl ≠ wl := fun z => nj (by rw [z]; exact List.mem_cons_self)
    have njp : jl ≠ pa := fun z => nj (by rw [z]; exact List.mem_cons_of_mem _ List.mem_cons_self)
    walk_at "st"
    refine ⟨.inl ⟨rfl, _, sqL hw⟩, ?_⟩
    refine r_popL (by exact hw) (fun H10 h10 n10 => ?_)
    refine r_glst (sqL (stay n10 naw ha)) rfl ?_
    walk_at "st"
    have hj10 := stay n10 njw hj
    have hp10 := stay n10 nwp hpA
    have e10 : Ext H H10 := mut_ext eH hwl2 n10
    have wt10 := wt0.but (q := wl) List.mem_cons_self (.of n10)
    refine r_lenL (sqL hj10) (by rw [js_len]) ?_
    walk_at "st"
    refine ite_d (fun c2 => ?_) (fun c2 => ?_)
    · have hm : 1 ≤ t.m := by omega
      have S := ok.step hm
      have hdd := ok.hd
      have hsm : t.m ≤ n := by
        have h1 := ok.rng
        have h2 := ok.hs
        have a1 := h1 (t.root + t.s) (by unfold Lay.In; rcases h2 with e | e <;> rw [e] <;> omega)
        have a2 := h1 (t.root + t.s * t.m) (by unfold Lay.In; rcases h2 with e | e <;> rw [e] <;> omega)
        rcases h2 with e | e <;> rw [e] at a1 a2 <;> omega
      have hrr := ok.hr
      obtain ⟨_, ms⟩ := mu_step S (ps0.map (·.2))
      have ha' : Lay.sAt t.d t.r t.m < t.m := S.ha
      have hn' : Lay.sNr t.d t.r t.m ≤ Lay.sAt t.d t.r t.m := S.hn
      have d1 := S.d1
      have r1 := S.r1
      have ed : ((t.d : Int) - 1) = ((t.d - 1 : Nat) : Int) := by omega
      have er : ((t.r : Int) - 1) = ((t.r - 1 : Nat) : Int) := by omega
      walk_at "st"
      refine r_lenL (sqL hj10) (by rw [js_len]) ?_
      walk_at "st"
      refine ⟨t.d - 1, t.r, by rw [ed], by omega, by omega, ?_⟩
      walk_at "st"
      refine r_div (cdW (by decide) (by decide)) ?_
      rw [half_eq]
      walk_at "st"
      refine r_lenL (sqL hj10) (by rw [js_len]) ?_
      walk_at "st"
      rw [at_between t.d t.r t.m hm]
      walk_at "st"
      refine ⟨t.d, t.r - 1, by rw [er], by omega, by omega, ?_⟩
      walk_at "st"
      refine r_div (cdW (by decide) (by decide)) ?_
      rw [half_eq]
      walk_at "st"
      rw [at_near]
      walk_at "st"
      have etop : t.root + t.s * ((t.at_ : Nat) + 1 : Int) = t.top := by
        show _ = t.root + t.s * ((t.at_ + 1 : Nat) : Int)
        rw [Int.natCast_add]
        rfl
      have etop' : t.root + t.s * (((Lay.sAt t.d t.r t.m : Nat) : Int) + 1) = t.top := etop
      refine r_atL (sqL hj10) (atI_nat (js_at ha')) ?_
      rw [etop']
      have tt := S.t1
      have ek : t.top = ((t.top.toNat : Nat) : Int) + ((0 : Nat) : Int) := by omega
      refine r_setL (j := t.top.toNat) hp10 (by omega) (by omega) (fun H11 h11 n11 => ?_)
      have e11 : Ext H H11 := mut_ext e10 hpa2 n11
      have hw11 := stay n11 nwp.symm h10
      have hj11 := stay n11 njp hj10
      have wt11 := wt10.but (q := pa) (List.mem_cons_of_mem _ List.mem_cons_self) (.of n11)
      have hsz : ps0.length ≤ 30000 := by
        have : ps0.length + 1 ≤ 2 + 3 * (tkMu [tk0 n d r', tk1 n d r'] - tkMu (ps0.map (·.2) ++ [t])) := by simpa using hps
        omega
      have fr : ∀ {G : Hp} {x : Addr}, G wl ≠ none → G pa ≠ none → G x = none → x ∉ [wl, pa] := fun {G x} g1 g2 hx z => by
        rcases List.mem_cons.mp z with z | z
        · exact g1 (z ▸ hx)
        · exact g2 (List.mem_singleton.mp z ▸ hx)
      have nn : ∀ {G : Hp} {x : Addr} {o : HO}, G x = some o → G x ≠ none := fun h z => by rw [h] at z; cases z
      walk_at "st"
      -- the near ones
      refine ⟨.inl ⟨rfl, _, sqL hw11⟩, ?_⟩
      walk_at "st"
      refine r_slL (sqL hj11) (fun l3 H12 hl3 e12 h12 => ?_)
      rw [cut_to, js_take (Nat.le_of_lt (Nat.lt_of_le_of_lt hn' ha'))] at h12
      walk_at "st"
      intro q3 H13 hq3 e13 h13
      rw [er] at h13
      have e113 := e12.trans e13
      have tA : TkAt .lst H13 [wl, pa] (.ref q3) t.tA := ⟨q3, l3, rfl, h13, e13 _ _ h12, fr (nn hw11) (nn h11) (e12.none hq3), fr (nn hw11) (nn h11) hl3⟩
      walk_at "st"
      refine r_app (e113 _ _ hw11) (by rw [List.length_map]; omega) (fun H14 h14 n14 => ?_)
      have wt14 := ((wt11.ext e113).push tA S.a).but (q := wl) List.mem_cons_self (.of n14)
      have hp14 := stay n14 nwp (e113 _ _ h11)
      have hj14 := stay n14 njw (e113 _ _ hj11)
      have e14 : Ext H H14 := mut_ext (e11.trans e113) hwl2 n14
      walk_at "st"
      -- the ones between
      refine ⟨.inl ⟨rfl, _, sqL h14⟩, ?_⟩
      walk_at "st"
      refine r_atL (sqL hj14) (atI_nat (js_at ha')) ?_
      walk_at "st"
      intro l4 hl4
      rw [show (((Lay.sAt t.d t.r t.m : Nat) : Int) - ((Lay.sNr t.d t.r t.m : Nat) : Int)).toNat = Lay.sAt t.d t.r t.m - Lay.sNr t.d t.r t.m by omega]
      refine lcW_range (LcP H14 l4 fun k => .int ((t.root + t.s * (Lay.sAt t.d t.r t.m + 1 : Nat)) + (-t.s) * ((k : Nat) + 1 : Int))) (.start hl4) (fun i H' hi p => ?_) (fun H15 p15 => ?_)
      · walk_at "st"
        refine r_lcW rfl ?_
        walk_at "st"
        refine r_atL (sqL (p.e _ _ hj14)) (v := .int (t.root + t.s * (((Lay.sAt t.d t.r t.m - 1 - i : Nat) : Int) + 1))) ?_ ?_
        · rw [show ((Lay.sAt t.d t.r t.m : Nat) : Int) - 1 - (0 + (i : Int)) = ((Lay.sAt t.d t.r t.m - 1 - i : Nat) : Int) by omega]
          exact atI_nat (js_at (by omega))
        rw [js_up _ _ _ _ (by omega)]
        exact p.pushB hl4 (by omega) .rfl rfl
      have h15 : H15 l4 = some (.lst (js t.tB.root t.tB.s t.tB.m)) := p15.d
      have e15 := p15.e
      walk_at "st"
      intro q4 H16 hq4 e16 h16
      rw [ed, er, etop'] at h16
      have e156 := e15.trans e16
      have tB : TkAt .lst H16 [wl, pa] (.ref q4) t.tB := ⟨q4, l4, rfl, h16, e16 _ _ h15, fr (nn h14) (nn hp14) (e15.none hq4), fr (nn h14) (nn hp14) hl4⟩
      walk_at "st"
      refine r_app (e156 _ _ h14) (by rw [List.length_append, List.length_map]; show ps0.length + 1 < _; omega) (fun H17 h17 n17 => ?_)
      have wt17 := ((wt14.ext e156).push tB S.b).but (q := wl) List.mem_cons_self (.of n17)
      have hp17 := stay n17 nwp (e156 _ _ hp14)
      have hj17 := stay n17 njw (e156 _ _ hj14)
      have e17 : Ext H H17 := mut_ext (e14.trans e156) hwl2 n17
      walk_at "st"
      -- the ones beyond
      refine ⟨.inl ⟨rfl, _, sqL h17⟩, ?_⟩
      walk_at "st"
      refine r_atL (sqL hj17) (atI_nat (js_at ha')) ?_
      walk_at "st"
      refine r_slL (sqL hj17) (fun l5 H18 hl5 e18 h18 => ?_)
      rw [show ((Lay.sAt t.d t.r t.m : Nat) : Int) + 1 = ((Lay.sAt t.d t.r t.m + 1 : Nat) : Int) by omega, cut_from, js_drop ha'] at h18
      walk_at "st"
      intro q5 H19 hq5 e19 h19
      rw [ed, etop'] at h19
      have e189 := e18.trans e19
      have tC : TkAt .lst H19 [wl, pa] (.ref q5) t.tC := ⟨q5, l5, rfl, h19, e19 _ _ h18, fr (nn h17) (nn hp17) (e18.none hq5), fr (nn h17) (nn hp17) hl5⟩
      walk_at "st"
      refine r_app (e189 _ _ h17) (by rw [List.length_append, List.length_append, List.length_map]; show ps0.length + 1 + 1 < _; omega) (fun H20 h20 n20 => ?_)
      have wt20 := ((wt17.ext e189).push tC S.c).but (q := wl) List.mem_cons_self (.of n20)
      have hp20 := stay n20 nwp (e189 _ _ hp17)
      have e20 : Ext H H20 := mut_ext (e17.trans e189) hwl2 n20
      have hmu' : (ps0 ++ [(V.ref q3, t.tA)] ++ [(V.ref q4, t.tB)] ++ [(V.ref q5, t.tC)]).map (·.2) = ps0.map (·.2) ++ [t.tA, t.tB, t.tC] := by simp
      refine ⟨_, ms, ps0 ++ [(V.ref q3, t.tA)] ++ [(V.ref q4, t.tB)] ++ [(V.ref q5, t.tC)], _, _, _, _, _, _, _, _, by rw [hmu'], rfl, by rw [h20]; simp, hp20, by rw [List.length_set]; exact hA, ?_, wt20, e20, ?_, ?_⟩
      · rw [hmu']
        refine Arr.set (o := 0) (k := t.top.toNat) arr S (by omega) (by omega) hn1 ek (fun u hu => List.mem_append_left _ hu) ?_ ?_ ?_ <;> simp
      · rw [hmu']
        have : ps0.length + 1 ≤ 2 + 3 * (tkMu [tk0 n d r', tk1 n d r'] - tkMu (ps0.map (·.2) ++ [t])) := by simpa using hps
        have hm2 : tkMu (ps0.map (·.2) ++ [t]) ≤ tkMu [tk0 n d r', tk1 n d r'] := hmu
        simp only [List.length_append, List.length_cons, List.length_nil]
        omega
      · rw [hmu']
        exact Nat.le_trans (Nat.le_of_lt ms) hmu
    · have hm : t.m = 0 := by omega
      have ms := mu_none (ps0.map (·.2)) t
      walk_at "st"
      have hm2 : tkMu (ps0.map (·.2) ++ [t]) ≤ tkMu [tk0 n d r', tk1 n d r'] := hmu
      refine ⟨_, ms, ps0, A, _, _, _, _, _, _, _, rfl, rfl, h10, hp10, hA, arr.none hm, wt10, e10, ?_, by omega⟩
      have : ps0.length + 1 ≤ 2 + 3 * (tkMu [tk0 n d r', tk1 n d r'] - tkMu (ps0.map (·.2) ++ [t])) := by simpa using hps
      omega
  · walk_at "st"
    have e0 : ps = [] := List.eq_nil_of_length_eq_zero (by omega)
    subst e0
    refine r_slL (sqL hpA) (fun q H10 hq e10 h10 => ?_)
    rw [show (1 : Int) = ((1 : Nat) : Int) from rfl, cut_at, Arr.done1 arr hA hn1] at h10
    exact k q H10 (eH.none hq) (eH.trans e10) h10

end
end K27
set_option maxRecDepth 100000
set_option maxHeartbeats 4000000
namespace K27
open PySem PySem.Spec PyProof.Rows L2 L3
local macro_rules | `(tactic| walk_at "s1") => `(tactic| first
  | with_reducible refine r_seq ?_
  | with_reducible refine r_asgN ?_
  | with_reducible refine r_ret ?_
  | with_reducible refine r_next ?_
  | ((with_reducible refine' r_var ?hv ?_); (case hv => exact rfl))
  | with_reducible refine r_c ?_
  | with_reducible refine r_op ?_
  | with_reducible refine r_cons ?_
  | with_reducible refine r_nil ?_
  | with_reducible refine r_plusI ?_
  | with_reducible refine r_I0 ?_
  | with_reducible refine r_test ?_
  | with_reducible refine r_bl ?_
  | with_reducible refine r_ifS ?_
  | with_reducible refine r_cb ?_
  | with_reducible refine r_callS ?_
  | with_reducible refine r_and ?_
  | with_reducible refine r_or ?_
  | with_reducible refine r_not ?_
  | with_reducible refine r_B ?_
  | ((with_reducible refine' r_aug ?hv ?_); (case hv => exact rfl))
  | with_reducible refine r_augS ?_
  | with_reducible refine r_ipI ?_
  | with_reducible refine r_asg ?_
  | with_reducible refine r_sub ?_
  | with_reducible refine r_brk ?_
  | with_reducible refine r_isN1 ?_
  | with_reducible refine r_notN1 ?_
  | with_reducible refine r_intI ?_
  | with_reducible refine r_abs ?_
  | with_reducible refine r_min ?_
  | with_reducible refine r_max ?_
  | ((with_reducible refine' r_mod ?hz ?_); (case hz => omega))
  | ((with_reducible refine' r_pow ?hz ?_); (case hz => exact ⟨by decide, by decide, by decide⟩))
  | ((with_reducible refine' r_rg1 ?hz ?_); (case hz => omega))
  | ((with_reducible refine' r_rg2 ?hz ?_); (case hz => omega))
  | ((with_reducible refine' r_newL ?hz ?_); (case hz => exact Nat.le_of_ble_eq_true rfl))
  | ((with_reducible refine' r_newT ?hz ?_); (case hz => exact Nat.le_of_ble_eq_true rfl))
  | with_reducible refine r_for ?_
  | with_reducible refine r_lc ?_
  | with_reducible refine r_iR1 ?_
  | with_reducible refine r_iR2 ?_
  | with_reducible refine r_iL ?_
  | with_reducible refine r_iT ?_
  | with_reducible refine r_gname ?_
  | with_reducible refine r_gcons ?_
  | with_reducible refine r_gnil ?_
  | with_reducible refine r_yes ?_
  | with_reducible refine r_mkO ?_
  | with_reducible refine r_cont ?_
  | with_reducible refine r_drop ?_
  | with_reducible refine r_retN ?_
  | with_reducible refine r_ifC ?_
  | with_reducible refine r_ifI ?_
  | with_reducible refine r_if ?_
  | with_reducible refine r_un ?_
  | with_reducible refine r_neg ?_
  | with_reducible refine r_andV ?_
  | with_reducible refine r_orV ?_
  | with_reducible refine r_notV ?_
  | with_reducible refine r_tup ?_
  | with_reducible refine r_lst ?_
  | with_reducible refine r_bm ?_
  | with_reducible refine r_bm0 ?_
  | with_reducible refine r_sl ?_
  | with_reducible refine r_chain ?_
  | with_reducible refine r_listDn ?_
  | with_reducible refine r_listRg2 ?_
  | with_reducible refine r_revL ?_
  | with_reducible refine r_noPart ?_
  | with_reducible refine r_part ?_
  | with_reducible refine r_int ?_
  | ((with_reducible refine' r_sameS ?hs ?_); (case hs => exact rfl))
  | ((with_reducible refine' r_otherS ?hs ?_); (case hs => exact rfl))
  | with_reducible refine ite_t ?_
  | with_reducible refine ite_f ?_
  | with_reducible refine ite_nt ?_
  | with_reducible refine ite_nf ?_)
local macro_rules | `(tactic| walk_at "st") => `(tactic| repeat (walk_at "s1"))

section
variable {P : Program} {w : World} {K : PySem.W.Frag} {mg : Str → Option Value} {base : Heap}
/-! ### copies -/
/-- y's data, all of it new since H -/
def Cop (K : PySem.W.Frag) (H H' : Hp) (y : V) (d : PyData) : Prop := ∀ G : Hp, (∀ b o, H b = none → H' b = some o → G b = some o) → Dp K G y d
def spCopied (K : PySem.W.Frag) (n : Nat) : Sp := fun vs H Q _ => ∃ (x : V) (d : PyData), vs = [x] ∧ Dp K H x d ∧ smallD n d ∧ ∀ y H', Ext H H' → Cop K H H' y d → Q y H'
/-- the copies made so far, at D -/
def Cops (K : PySem.W.Frag) (H1 : Hp) (D : Addr) (ds : List PyData) (i : Nat) (H' : Hp) : Prop := Ext H1 H' ∧ ∃ ys, H' D = some (.lst ys) ∧ ys.length = i ∧ ∀ G : Hp, (∀ b o, H1 b = none → b ≠ D → H' b = some o → G b = some o) → DpAll K G ys (ds.take i)
theorem Cops.push {K : PySem.W.Frag} {H1 H2 H3 : Hp} {D : Addr} {ds : List PyData} {i : Nat} {e : PyData} {y : V} (h : Cops K H1 D ds i H2) (hD : H1 D = none) (he : ds[i]? = some e) (hi : i < 16777216) (e3 : Ext H2 H3) (c : Cop K H2 H3 y e) :
    ∃ acc, H3 D = some (.lst acc) ∧ acc.length < sizeLine ∧ Cops K H1 D ds (i + 1) (upd H3 D (.lst (acc ++ [y]))) := by
  obtain ⟨e2, ys, hy, hyl, hys⟩ := h
  refine ⟨ys, e3 _ _ hy, by rw [hyl, sizeLine_eq]; exact hi, Ext.mut (e2.trans e3) hD, ys ++ [y], upd_same, by rw [List.length_append, hyl]; rfl, fun G hG => ?_⟩
  rw [List.take_succ, he]
  refine dps_append (hys G fun b o h1 h2 h3 => hG b o h1 h2 (by rw [upd_ne h2]; exact e3 _ _ h3)) (.cons (c G fun b o h1 h2 => ?_) .nil)
  have bD : b ≠ D := fun z => by rw [z, hy] at h1; cases h1
  exact hG b o (e2.none h1) bD (by rw [upd_ne bD]; exact h2)
theorem lcW_tup {K : PySem.W.Frag} {σ : L2.St} {H : Hp} {g : TG} {tt : TT} {te : TE} {a : Addr} {xs : List V} {vs : List Nat} {Dl : Addr} {Qd : Hp → Prop} (Pv : Nat → Hp → Prop) (h0 : Pv 0 (upd H Dl (.lst []))) (hl : ∀ i H, i ≤ xs.length → Pv i H → SqT K H a xs)
    (hs : ∀ i x H, xs[i]? = some x → Pv i H → g x (wipe σ vs) H fun σ2 H2 => wipe σ2 vs = wipe σ vs ∧ tt σ2 H2 fun b H3 =>
      if b = true then te σ2 H3 fun y H4 => ∃ acc, H4 Dl = some (.lst acc) ∧ acc.length < sizeLine ∧ Pv (i + 1) (upd H4 Dl (.lst (acc ++ [y]))) else Pv (i + 1) H3) (hd : ∀ H, Pv xs.length H → Qd H) : LcW (Itt K a) g tt te vs σ Dl Qd H := lc_tup Pv h0 hl hs hd
theorem sc__law_copied : FnScope ["thing", "one", "key"] ["thing"] (defScope s__law_copied) := ⟨rfl, rfl, rfl, by decide +kernel, rfl, by decide +kernel, by decide +kernel⟩
theorem ok_law_copied (T : Txt w K mg) : ∀ n, CalG P w K mg base (n + 2) "_law_copied" ["thing"] (spCopied K n)
  | 0 => (calG_false T.g__law_copied T.d__law_copied (fun _ _ _ _ _ _ _ us hl => match us, hl with | [_], _ => rfl)).imp fun vs H Q E ⟨_, _, _, _, z, _⟩ => z.elim
  | n + 1 => by
    have c__law_copied := ok_law_copied T n
    refine calG_of T.g__law_copied T.d__law_copied sc__law_copied (fun _ _ _ _ _ _ _ us hl => match us, hl with | [_], _ => rfl) (fun vs H Q E h => by obtain ⟨c, d, rfl, _⟩ := h; rfl) (fun cdv A outer s H vs Q E hr h => ?_)
    have nd := sc__law_copied.nd
    have hu := hu64 hr
    obtain ⟨x, d, rfl, hx, hd, k⟩ := h
    refine ⟨_, (pss_cons (ps_if (pt_val (pe_callB (isiK (K := K)) (by rfl) T.f_isinstance (by decide +kernel) (pa_cons (pv 0) (pa_cons (pe_ty T.f_list) pa_nil)))) (pss_one (ps_ret (pe_lc (own := [("one", 1)]) rfl nd (piL (K := K) (pv 0)) (blkOk_by (N := ["thing", "one", "key"]) (sc := defScope s__law_copied) (by decide +kernel)) (fun _ _ _ _ _ => (pg_name (i := 1) nd rfl (Or.inl rfl))) (fun _ _ _ _ _ => pts_nil) (fun _ _ _ _ _ => (pe_cal c__law_copied hr (by omega) passN (pa_cons (pv 1) pa_nil)))))) pss_nil)
        (pss_cons (ps_if (pt_val (pe_callB (isiK (K := K)) (by rfl) T.f_isinstance (by decide +kernel) (pa_cons (pv 0) (pa_cons (pe_ty T.f_tuple) pa_nil)))) (pss_one (ps_ret (pe_callTy (tupK (K := K)) (by rfl) T.f_tuple (by decide +kernel) (pa_cons (pe_lc (own := [("one", 1)]) rfl nd (piT (K := K) (pv 0)) (blkOk_by (N := ["thing", "one", "key"]) (sc := defScope s__law_copied) (by decide +kernel)) (fun _ _ _ _ _ => (pg_name (i := 1) nd rfl (Or.inl rfl))) (fun _ _ _ _ _ => pts_nil) (fun _ _ _ _ _ => (pe_cal c__law_copied hr (by omega) passN (pa_cons (pv 1) pa_nil)))) pa_nil)))) pss_nil)
        (pss_cons (ps_if (pt_val (pe_callB (isiK (K := K)) (by rfl) T.f_isinstance (by decide +kernel) (pa_cons (pv 0) (pa_cons (pe_ty T.f_dict) pa_nil)))) pss_never pss_nil)
        (pss_one (ps_ret (pv 0)))))), ?_⟩
    have hsz := hd.1
    have hsub := hd.2
    have flat : (itemsD d = []) → (∀ G : Hp, Dp K G x d) → Q x H := fun _ h => k x H .rfl fun G _ => h G
    walk_at "st"
    refine r_isi (b := "list") hx (by simp) ?_
    cases hx with
    | lst h hs =>
      rename_i a xs ds
      rw [show isB (tyD (.list ds)) "list" = true by simp [isB, tyD]]
      walk_at "st"
      refine r_li h ?_
      intro D hD
      have hxl := dps_len hs
      refine lcW_list (Cops K H D ds) ⟨.new hD, [], upd_same, rfl, fun _ _ => by rw [List.take_zero]; exact .nil⟩ (fun i H' _ p => p.1.l h) ?_ ?_
      · intro i y H2 hy p
        have hi : i < ds.length := by rw [← hxl]; exact (List.getElem?_eq_some_iff.mp hy).1
        have ed : ds[i]? = some ds[i] := List.getElem?_eq_getElem hi
        obtain ⟨x', ex, hx'⟩ := dps_get hs ed
        rw [hy] at ex
        cases ex
        have hz : ds.length ≤ 100000 := hsz
        walk_at "st"
        refine r_lcW rfl ?_
        walk_at "st"
        exact ⟨y, ds[i], rfl, p.1.dp _ hx', hsub _ (List.getElem_mem hi), fun z H3 e3 c => p.push hD ed (by omega) e3 c⟩
      · rintro H2 ⟨e2, ys, hy, hyl, hys⟩
        rw [hxl, List.take_length] at hys
        refine k (.ref D) H2 e2 fun G hG => .lst (sqL (hG D _ hD hy)) (hys G fun b o h1 _ h3 => hG b o h1 h3)
    | tup h hs =>
      rename_i a xs ds
      rw [show isB (tyD (.tuple ds)) "list" = false by simp [isB, tyD]]
      walk_at "st"
      refine r_isi (b := "tuple") (d := .tuple ds) (.tup h hs) (by simp) ?_
      rw [show isB (tyD (.tuple ds)) "tuple" = true by simp [isB, tyD]]
      walk_at "st"
      refine r_ti h ?_
      intro D hD
      have hxl := dps_len hs
      refine lcW_tup (Cops K H D ds) ⟨.new hD, [], upd_same, rfl, fun _ _ => by rw [List.take_zero]; exact .nil⟩ (fun i H' _ p => p.1.tu h) ?_ ?_
      · intro i y H2 hy p
        have hi : i < ds.length := by rw [← hxl]; exact (List.getElem?_eq_some_iff.mp hy).1
        have ed : ds[i]? = some ds[i] := List.getElem?_eq_getElem hi
        obtain ⟨x', ex, hx'⟩ := dps_get hs ed
        rw [hy] at ex
        cases ex
        have hz : ds.length ≤ 100000 := hsz
        walk_at "st"
        refine r_lcW rfl ?_
        walk_at "st"
        exact ⟨y, ds[i], rfl, p.1.dp _ hx', hsub _ (List.getElem_mem hi), fun z H3 e3 c => p.push hD ed (by omega) e3 c⟩
      · rintro H2 ⟨e2, ys, hy, hyl, hys⟩
        rw [hxl, List.take_length] at hys
        walk_at "st"
        refine ⟨D, ys, rfl, .inl ⟨sqL hy, fun l hl => ?_⟩⟩
        have e3 : Ext H2 (upd H2 l (.tup ys)) := .new hl
        refine k (.ref l) _ (e2.trans e3) fun G hG => .tup (sqT (hG l _ (e2.none hl) upd_same)) (hys G fun b o h1 _ h3 => hG b o h1 (e3 _ _ h3))
    | non =>
      rw [show isB (tyD .none) "list" = false by simp [isB, tyD]]
      walk_at "st"
      refine r_isi (b := "tuple") (d := .none) .non (by simp) ?_
      rw [show isB (tyD .none) "tuple" = false by simp [isB, tyD]]
      walk_at "st"
      refine r_isi (b := "dict") (d := .none) .non (by simp) ?_
      rw [show isB (tyD .none) "dict" = false by simp [isB, tyD]]
      walk_at "st"
      exact flat rfl fun _ => .non
    | bl b =>
      rw [show isB (tyD (.bool b)) "list" = false by simp [isB, tyD]]
      walk_at "st"
      refine r_isi (b := "tuple") (d := .bool b) (.bl b) (by simp) ?_
      rw [show isB (tyD (.bool b)) "tuple" = false by simp [isB, tyD]]
      walk_at "st"
      refine r_isi (b := "dict") (d := .bool b) (.bl b) (by simp) ?_
      rw [show isB (tyD (.bool b)) "dict" = false by simp [isB, tyD]]
      walk_at "st"
      exact flat rfl fun _ => .bl b
    | int b =>
      rw [show isB (tyD (.int b)) "list" = false by simp [isB, tyD]]
      walk_at "st"
      refine r_isi (b := "tuple") (d := .int b) (.int b) (by simp) ?_
      rw [show isB (tyD (.int b)) "tuple" = false by simp [isB, tyD]]
      walk_at "st"
      refine r_isi (b := "dict") (d := .int b) (.int b) (by simp) ?_
      rw [show isB (tyD (.int b)) "dict" = false by simp [isB, tyD]]
      walk_at "st"
      exact flat rfl fun _ => .int b
    | str b =>
      rw [show isB (tyD (.str b)) "list" = false by simp [isB, tyD]]
      walk_at "st"
      refine r_isi (b := "tuple") (d := .str b) (.str b) (by simp) ?_
      rw [show isB (tyD (.str b)) "tuple" = false by simp [isB, tyD]]
      walk_at "st"
      refine r_isi (b := "dict") (d := .str b) (.str b) (by simp) ?_
      rw [show isB (tyD (.str b)) "dict" = false by simp [isB, tyD]]
      walk_at "st"
      exact flat rfl fun _ => .str b

end
end K27
set_option maxRecDepth 100000
set_option maxHeartbeats 4000000
namespace K27
open PySem PySem.Spec PyProof.Rows L2 L3
local macro_rules | `(tactic| walk_at "s1") => `(tactic| first
  | with_reducible refine r_seq ?_
  | with_reducible refine r_asgN ?_
  | with_reducible refine r_ret ?_
  | with_reducible refine r_next ?_
  | ((with_reducible refine' r_var ?hv ?_); (case hv => exact rfl))
  | with_reducible refine r_c ?_
  | with_reducible refine r_op ?_
  | with_reducible refine r_cons ?_
  | with_reducible refine r_nil ?_
  | with_reducible refine r_plusI ?_
  | with_reducible refine r_I0 ?_
  | with_reducible refine r_test ?_
  | with_reducible refine r_bl ?_
  | with_reducible refine r_ifS ?_
  | with_reducible refine r_cb ?_
  | with_reducible refine r_callS ?_
  | with_reducible refine r_and ?_
  | with_reducible refine r_or ?_
  | with_reducible refine r_not ?_
  | with_reducible refine r_B ?_
  | ((with_reducible refine' r_aug ?hv ?_); (case hv => exact rfl))
  | with_reducible refine r_augS ?_
  | with_reducible refine r_ipI ?_
  | with_reducible refine r_asg ?_
  | with_reducible refine r_sub ?_
  | with_reducible refine r_brk ?_
  | with_reducible refine r_isN1 ?_
  | with_reducible refine r_notN1 ?_
  | with_reducible refine r_intI ?_
  | with_reducible refine r_abs ?_
  | with_reducible refine r_min ?_
  | with_reducible refine r_max ?_
  | ((with_reducible refine' r_mod ?hz ?_); (case hz => omega))
  | ((with_reducible refine' r_pow ?hz ?_); (case hz => exact ⟨by decide, by decide, by decide⟩))
  | ((with_reducible refine' r_rg1 ?hz ?_); (case hz => omega))
  | ((with_reducible refine' r_rg2 ?hz ?_); (case hz => omega))
  | ((with_reducible refine' r_newL ?hz ?_); (case hz => exact Nat.le_of_ble_eq_true rfl))
  | ((with_reducible refine' r_newT ?hz ?_); (case hz => exact Nat.le_of_ble_eq_true rfl))
  | with_reducible refine r_for ?_
  | with_reducible refine r_lc ?_
  | with_reducible refine r_iR1 ?_
  | with_reducible refine r_iR2 ?_
  | with_reducible refine r_iL ?_
  | with_reducible refine r_iT ?_
  | with_reducible refine r_gname ?_
  | with_reducible refine r_gcons ?_
  | with_reducible refine r_gnil ?_
  | with_reducible refine r_yes ?_
  | with_reducible refine r_mkO ?_
  | with_reducible refine r_cont ?_
  | with_reducible refine r_drop ?_
  | with_reducible refine r_retN ?_
  | with_reducible refine r_ifC ?_
  | with_reducible refine r_ifI ?_
  | with_reducible refine r_if ?_
  | with_reducible refine r_un ?_
  | with_reducible refine r_neg ?_
  | with_reducible refine r_andV ?_
  | with_reducible refine r_orV ?_
  | with_reducible refine r_notV ?_
  | with_reducible refine r_tup ?_
  | with_reducible refine r_lst ?_
  | with_reducible refine r_bm ?_
  | with_reducible refine r_bm0 ?_
  | with_reducible refine r_sl ?_
  | with_reducible refine r_chain ?_
  | with_reducible refine r_listDn ?_
  | with_reducible refine r_listRg2 ?_
  | with_reducible refine r_revL ?_
  | with_reducible refine r_noPart ?_
  | with_reducible refine r_part ?_
  | with_reducible refine r_int ?_
  | ((with_reducible refine' r_sameS ?hs ?_); (case hs => exact rfl))
  | ((with_reducible refine' r_otherS ?hs ?_); (case hs => exact rfl))
  | with_reducible refine ite_t ?_
  | with_reducible refine ite_f ?_
  | with_reducible refine ite_nt ?_
  | with_reducible refine ite_nf ?_)
local macro_rules | `(tactic| walk_at "st") => `(tactic| repeat (walk_at "s1"))

section
variable {P : Program} {w : World} {K : PySem.W.Frag} {mg : Str → Option Value} {base : Heap}
/-! ### the law's own look -/
def spRight (K : PySem.W.Frag) : Sp := fun vs H Q _ => ∃ (n : Nat) (x : V) (d : PyData), vs = [.int n, x] ∧ Dp K H x d ∧ Q (.bl (ent n d).isSome) H
theorem sc__law_f_right : FnScope ["n", "parent"] ["n", "parent"] (defScope s__law_f_right) := ⟨rfl, rfl, rfl, by decide +kernel, rfl, by decide +kernel, by decide +kernel⟩
theorem ok_law_f_right (T : Txt w K mg) : CalG P w K mg base 1 "_law_f_right" ["n", "parent"] (spRight K) := by
  refine calG_of T.g__law_f_right T.d__law_f_right sc__law_f_right (fun _ _ _ _ _ _ _ us hl => match us, hl with | [_, _], _ => rfl) (fun vs H Q E h => by obtain ⟨_, _, _, rfl, _⟩ := h; rfl) (fun cdv A outer s H vs Q E hr h => ?_)
  have nd := sc__law_f_right.nd
  have hu := hu64 hr
  obtain ⟨n, x, d, rfl, hx, k⟩ := h
  refine ⟨_, (pss_one (ps_ret (pe_and (pe_callB (isiK (K := K)) (by rfl) T.f_isinstance (by decide +kernel) (pa_cons (pv 1) (pa_cons (pe_ty T.f_int) pa_nil))) (pe_and (pe_not (pe_callB (isiK (K := K)) (by rfl) T.f_isinstance (by decide +kernel) (pa_cons (pv 1) (pa_cons (pe_ty T.f_bool) pa_nil)))) (pe_one (pe_chain op_le op_le pe_int (pv 1) (pv 0))))))), ?_⟩
  walk_at "st"
  refine r_isi hx (by simp) ?_
  cases hx with
  | int z =>
    have e0 : ent n (.int z) = if 0 ≤ z ∧ z ≤ n then some z else none := rfl
    rw [e0] at k
    rw [show isB (tyD (.int z)) "int" = true by simp [isB, tyD]]
    walk_at "st"
    refine r_isi (.int z) (by simp) ?_
    rw [show isB (tyD (.int z)) "bool" = false by simp [isB, tyD]]
    walk_at "st"
    refine ite_d (fun c1 => ?_) (fun c1 => ?_)
    · walk_at "st"
      by_cases c2 : z ≤ n
      · rw [if_pos ⟨c1, c2⟩] at k
        rw [decide_eq_true c2]
        exact k
      · rw [if_neg fun z => c2 z.2] at k
        rw [decide_eq_false c2]
        exact k
    · rw [if_neg fun z => c1 z.1] at k
      exact k
  | bl b =>
    rw [show isB (tyD (.bool b)) "int" = true by simp [isB, tyD]]
    walk_at "st"
    refine r_isi (.bl b) (by simp) ?_
    rw [show isB (tyD (.bool b)) "bool" = true by simp [isB, tyD]]
    walk_at "st"
    exact k
  | non =>
    rw [show isB (tyD .none) "int" = false by simp [isB, tyD]]
    walk_at "st"
    exact k
  | str s =>
    rw [show isB (tyD (.str s)) "int" = false by simp [isB, tyD]]
    walk_at "st"
    exact k
  | lst h hs =>
    rw [show ∀ l, isB (tyD (.list l)) "int" = false by simp [isB, tyD]]
    walk_at "st"
    exact k
  | tup h hs =>
    rw [show ∀ l, isB (tyD (.tuple l)) "int" = false by simp [isB, tyD]]
    walk_at "st"
    exact k
noncomputable def clV (nx : Int → Int) (n : Nat) (j : Int) : V := if 0 ≤ Lay.cl nx n j then .int (Lay.cl nx n j) else .non
def spChain (K : PySem.W.Frag) : Sp := fun vs H Q _ => ∃ (n j : Nat) (p : Addr) (xs : List V) (ds : List PyData), vs = [.int n, .ref p, .int j] ∧ (1 ≤ j ∧ j < n) ∧ SqL K H p xs ∧ DpAll K H xs ds ∧ ds.length = n - 1 ∧ Q (clV (nxd n ds) n j) H
theorem sc__law_f_chain : FnScope ["n", "parents", "joint", "at", "steps"] ["n", "parents", "joint"] (defScope s__law_f_chain) := ⟨rfl, rfl, rfl, by decide +kernel, rfl, by decide +kernel, by decide +kernel⟩
theorem ok_law_f_chain (T : Txt w K mg) : CalG P w K mg base 2 "_law_f_chain" ["n", "parents", "joint"] (spChain K) := by
  have c__law_f_right := ok_law_f_right (P := P) (base := base) T
  refine calG_of T.g__law_f_chain T.d__law_f_chain sc__law_f_chain (fun _ _ _ _ _ _ _ us hl => match us, hl with | [_, _, _], _ => rfl) (fun vs H Q E h => by obtain ⟨_, _, _, _, _, rfl, _⟩ := h; rfl) (fun cdv A outer s H vs Q E hr h => ?_)
  have nd := sc__law_f_chain.nd
  have hu := hu64 hr
  obtain ⟨n, j, p, xs, ds, rfl, ⟨hj1, hj2⟩, hp, hd, hl, k⟩ := h
  refine ⟨_, (pss_cons (ps_set (i := 3) nd rfl (Or.inl rfl) (pv 2))
        (pss_cons (ps_set (i := 4) nd rfl (Or.inl rfl) pe_int)
        (pss_cons (ps_while (passes_of rfl) (PW.pt (pw_and (pt_cmpR (otherK (K := K) hu) (pv 3) pe_int (nomark _)) (pw_and1 (pt_cmpR (otherK (K := K) hu) (pv 3) (pv 0) (nomark _))))) (pss_cons (ps_if (PW.pt (pw_or (pt_cmpR op_gt (pv 4) (pv 0) (nomark _)) (pw_or1 (pt_not (pt_val (pe_cal c__law_f_right hr (by omega) (fun σ => L2N.passAt (L2N.takes_of rfl rfl rfl rfl) σ) (pa_cons (pv 0) (pa_cons (pe_ix (ixK (K := K)) (pv 1) (pe_op op_sub (pv 3) pe_int) (fun _ _ => rfl)) pa_nil)))))))) (pss_one (ps_ret pe_non)) pss_nil)
        (pss_cons (ps_set (i := 3) nd rfl (Or.inl rfl) (pe_ix (ixK (K := K)) (pv 1) (pe_op op_sub (pv 3) pe_int) (fun _ _ => rfl)))
        (pss_one (ps_set (i := 4) nd rfl (Or.inl rfl) (pe_op (plusK (K := K)) (pv 4) pe_int))))))
        (pss_one (ps_ret (pv 4)))))), ?_⟩
  walk_at "st"
  refine whileW (fun μ σ' H' => ∃ a st : Nat, μ = n + 1 - st ∧ σ' = [some (.int n), some (.ref p), some (.int j), some (.int a), some (.int st)] ∧ H = H' ∧ a ≤ n ∧ st ≤ n + 1 ∧ Lay.cl (nxd n ds) n j = if 0 ≤ Lay.cl (nxd n ds) n a then st + Lay.cl (nxd n ds) n a else -1) (n + 1)
    ⟨j, 0, rfl, rfl, rfl, by omega, by omega, by have := Lay.cl_ge (nx := nxd n ds) (n := n) (j : Int); split <;> omega⟩ ?_
  rintro μ σ' H' ⟨a, st, rfl, rfl, rfl, ha, hst, hcl⟩
  have fin : (a = 0 ∨ a = n) → Q (.int st) H := fun h => by
    have e : Lay.cl (nxd n ds) n a = 0 := by
      rcases h with h | h
      · rw [h]; exact Lay.cl_0
      · rw [h]; exact Lay.cl_n
    rw [e, if_pos (Int.le_refl _), Int.add_zero] at hcl
    have : clV (nxd n ds) n j = .int st := by unfold clV; rw [hcl, if_pos (by omega)]
    rw [← this]
    exact k
  have no : Lay.cl (nxd n ds) n j = -1 → Q .non H := fun h => by
    have : clV (nxd n ds) n j = .non := by unfold clV; rw [h]; rfl
    rw [← this]
    exact k
  walk_at "st"
  refine ite_n (fun c1 => ?_) (fun c1 => ?_)
  rotate_left
  · walk_at "st"
    exact fin (.inl (by have := V.int.inj c1; omega))
  walk_at "st"
  refine ite_n (fun c2 => r_N ?_) (fun c2 => ?_)
  rotate_left
  · walk_at "st"
    exact fin (.inr (by have := V.int.inj c2; omega))
  have a1 : 1 ≤ a := by
    refine Nat.pos_of_ne_zero fun e => c1 ?_
    rw [e]; rfl
  have a2 : a < n := by
    refine Nat.lt_of_le_of_ne ha fun e => c2 ?_
    rw [e]
  walk_at "st"
  refine ite_d (fun c3 => ?_) (fun c3 => ?_)
  · walk_at "st"
    refine no ?_
    have := Lay.cl_lt (nx := nxd n ds) (n := n) (j := (j : Int)) (by omega)
    split at hcl <;> omega
  walk_at "st"
  have ed : ds[a - 1]? = some ds[a - 1] := List.getElem?_eq_getElem (by omega)
  obtain ⟨x, ex, hx⟩ := dps_get hd ed
  have eat : atI xs ((a : Int) - 1) = some x := by
    rw [show (a : Int) - 1 = ((a - 1 : Nat) : Int) by omega]
    exact atI_nat ex
  have ea : (a : Int) = ((a - 1 : Nat) : Int) + 1 := by omega
  have stp := Lay.cl_step (nx := nxd n ds) (n := n) (j := (a : Int)) (by omega) (by omega)
  refine r_atL hp eat ?_
  walk_at "st"
  refine ⟨n, x, ds[a - 1], rfl, hx, ?_⟩
  cases e : ent n ds[a - 1] with
  | none =>
    rw [show (Option.isSome (none : Option Int)) = false from rfl]
    walk_at "st"
    refine no ?_
    have e1 := nxd_none ed e
    rw [← ea] at e1
    rw [e1] at stp
    split at stp
    · omega
    · rw [if_neg (by omega)] at hcl
      exact hcl
  | some i =>
    rw [show (Option.isSome (some i)) = true from rfl]
    walk_at "st"
    refine r_atL hp eat ?_
    obtain ⟨e2, i0, i1⟩ := ent_some e
    rw [e2] at hx
    cases hx
    have e1 := nxd_some ed e
    rw [← ea] at e1
    rw [e1] at stp
    walk_at "st"
    refine ⟨n + 1 - (st + 1), by omega, i.toNat, st + 1, rfl, ?_, rfl, by omega, by omega, ?_⟩
    · rw [Int.toNat_of_nonneg i0, Int.natCast_add]
      rfl
    · rw [Int.toNat_of_nonneg i0, hcl]
      split at stp <;> rename_i c
      · rw [if_pos (by omega), if_pos c]; omega
      · rw [if_neg (by omega), if_neg c]
theorem sc__law_f_loads : FnScope ["n", "parents", "found", "joint", "part"] ["n", "parents"] (defScope s__law_f_loads) := ⟨rfl, rfl, rfl, by decide +kernel, rfl, by decide +kernel, by decide +kernel⟩
theorem ok_law_f_loads (T : Txt w K mg) : CalG P w K mg base 2 "_law_f_loads" ["n", "parents"] (spLoads K True) := by
  refine calG_of T.g__law_f_loads T.d__law_f_loads sc__law_f_loads (fun _ _ _ _ _ _ _ us hl => match us, hl with | [_, _], _ => rfl) (fun vs H Q E h => by obtain ⟨_, _, _, _, rfl, _⟩ := h; rfl) (fun cdv A outer s H vs Q E hr h => ?_)
  have nd := sc__law_f_loads.nd
  have hu := hu64 hr
  obtain ⟨n, p, xs, nx, rfl, ⟨hn1, hn2⟩, hp, hpar, k⟩ := h
  refine ⟨_, (pss_cons (ps_set (i := 2) nd rfl (Or.inl rfl) (pe_op op_timesB (pe_lst (pa_cons pe_int pa_nil)) (pv 0)))
        (pss_cons (ps_for (passes_of rfl) rfl (pi_range2 (by rfl) T.f_range (pa_cons pe_int (pa_cons (pv 0) pa_nil))) (pg_name (i := 3) nd rfl (Or.inl rfl)) (pss_one (ps_for (passes_of rfl) rfl (pi_range2 (by rfl) T.f_range (pa_cons (pe_callB (cr_min2 rfl) (by rfl) T.f_min (by decide +kernel) (pa_cons (pv 3) (pa_cons (pe_ix (ixK (K := K)) (pv 1) (pe_op op_sub (pv 3) pe_int) (fun _ _ => rfl)) pa_nil))) (pa_cons (pe_callB (cr_max2 rfl) (by rfl) T.f_max (by decide +kernel) (pa_cons (pv 3) (pa_cons (pe_ix (ixK (K := K)) (pv 1) (pe_op op_sub (pv 3) pe_int) (fun _ _ => rfl)) pa_nil))) pa_nil))) (pg_name (i := 4) nd rfl (Or.inl rfl)) (pss_one (ps_asg (pe_op (plusK (K := K)) (pe_ix (ixK (K := K)) (pv 2) (pv 4) (fun _ _ => rfl)) pe_int) (pg_sub (pv 2) (pv 4) set_list))))))
        (pss_one (ps_ret (pv 2))))), ?_⟩
  walk_at "st"
  intro p1 H3 hp1 e3 h3
  walk_at "st"
  refine r_repL h3 (by omega) (by omega) (by simp; omega) (fun lo H4 hlo e4 h4 => ?_)
  have hlo0 : H lo = none := e3.none hlo
  have e04 := e3.trans e4
  walk_at "st"
  rw [show ((n : Int) - 1).toNat = n - 1 by omega]
  refine forW_range (fun i σ' H' => ∃ v1 v2, σ' = [some (.int n), some (.ref p), some (.ref lo), v1, v2] ∧ Ext H H' ∧ H' lo = some (.lst ((List.range n).map fun (q : Nat) => V.int (Lay.sI (Lay.cov nx q) 1 i)))) ⟨none, none, rfl, e04, ?_⟩ ?_ ?_
  · rw [h4]
    congr 2
    apply List.ext_getElem?
    intro i
    by_cases c : i < n
    · rw [List.getElem?_map, List.getElem?_range c, flat_at (by omega) c]
      rfl
    · rw [List.getElem?_eq_none (by rw [flat_len]; omega), List.getElem?_eq_none (by simp; omega)]
  · rintro i σ' H5 hi ⟨v1, v2, rfl, e5, h5⟩
    obtain ⟨px, p0, p1⟩ := hpar (i + 1) (by omega) (by omega)
    rw [Nat.add_sub_cancel] at px
    have pj : ((i + 1 : Nat) : Int) = 1 + (i : Int) := by omega
    rw [pj] at px p0 p1
    have pat : atI xs (1 + (i : Int) - 1) = some (.int (nx (1 + (i : Int)))) := by
      rw [show 1 + (i : Int) - 1 = (i : Int) by omega]
      exact atI_nat px
    walk_at "st"
    refine r_atL (e5.l hp) pat ?_
    walk_at "st"
    refine r_atL (e5.l hp) pat ?_
    walk_at "st"
    refine forW_range (fun t σ' H' => ∃ v, σ' = [some (.int n), some (.ref p), some (.ref lo), some (.int (1 + (i : Int))), v] ∧ Ext H H' ∧ H' lo = some (.lst ((List.range n).map fun (q : Nat) => V.int (Lay.sI (Lay.cov nx q) 1 i + if min (1 + (i : Int)) (nx (1 + (i : Int))) ≤ q ∧ (q : Int) < min (1 + (i : Int)) (nx (1 + (i : Int))) + t then 1 else 0)))) ⟨v2, rfl, e5, ?_⟩ ?_ ?_
    · rw [h5]
      congr 2
      refine List.map_congr_left fun q _ => ?_
      rw [if_neg (by omega), Int.add_zero]
    · rintro t σ' H7 ht ⟨v, rfl, e7, h7⟩
      generalize hmn : min (1 + (i : Int)) (nx (1 + (i : Int))) = mn at *
      obtain ⟨q, hq⟩ : ∃ q : Nat, mn + (t : Int) = q := ⟨(mn + t).toNat, by omega⟩
      have hqn : q < n := by omega
      walk_at "st"
      rw [hq]
      refine r_atL (sqL h7) (atI_nat (j := q) (v := .int (Lay.sI (Lay.cov nx q) 1 i + if mn ≤ q ∧ (q : Int) < mn + t then 1 else 0)) ?_) ?_
      · rw [List.getElem?_map, List.getElem?_range hqn]
        rfl
      walk_at "st"
      refine r_setL (j := q) h7 rfl (by simpa using hqn) (fun H8 h8 n8 => ?_)
      refine ⟨_, rfl, mut_ext e7 hlo0 n8, ?_⟩
      rw [h8, set_map]
      congr 2
      refine List.map_congr_left fun x _ => ?_
      by_cases c : x = q
      · subst c
        rw [if_pos rfl, if_neg (by omega), if_pos (by omega), Int.add_zero]
      · rw [if_neg c]
        congr 2
        by_cases c2 : mn ≤ x ∧ (x : Int) < mn + t
        · rw [if_pos c2, if_pos (by omega)]
        · rw [if_neg c2, if_neg (by omega)]
    · rintro σ' H7 ⟨v, rfl, e7, h7⟩
      refine ⟨_, _, rfl, e7, ?_⟩
      rw [h7]
      congr 2
      refine List.map_congr_left fun x _ => ?_
      show _ = V.int (Lay.sI (Lay.cov nx x) 1 i + Lay.cov nx x (1 + (i : Int)))
      congr 2
      unfold Lay.cov
      generalize nx (1 + (i : Int)) = z at *
      by_cases c : z ≤ (x : Int) ∧ (x : Int) < 1 + i ∨ 1 + (i : Int) ≤ x ∧ (x : Int) < z
      · rw [if_pos c, if_pos (by omega)]
      · rw [if_neg c, if_neg (by omega)]
  · rintro σ' H5 ⟨v1, v2, rfl, e5, h5⟩
    walk_at "st"
    exact k lo H5 hlo0 e5 h5
theorem sc__law_f_fault : FnScope ["n", "parents", "joint"] ["n", "parents"] (defScope s__law_f_fault) := ⟨rfl, rfl, rfl, by decide +kernel, rfl, by decide +kernel, by decide +kernel⟩
theorem ok_law_f_fault (T : Txt w K mg) : CalG P w K mg base 3 "_law_f_fault" ["n", "parents"] (spWrong K) := by
  have c__law_f_chain := ok_law_f_chain (P := P) (base := base) T
  refine calG_of T.g__law_f_fault T.d__law_f_fault sc__law_f_fault (fun _ _ _ _ _ _ _ us hl => match us, hl with | [_, _], _ => rfl) (fun vs H Q E h => by obtain ⟨_, _, _, _, rfl, _⟩ := h; rfl) (fun cdv A outer s H vs Q E hr h => ?_)
  have nd := sc__law_f_fault.nd
  have hu := hu64 hr
  obtain ⟨n, p, xs, ds, rfl, ⟨hn1, hn2⟩, hp, hd, k⟩ := h
  have hxl := dps_len hd
  refine ⟨_, (pss_cons (ps_if (pt_cmpR (otherK (K := K) hu) (pe_callB (lenK (K := K)) (by rfl) T.f_len boot_len (pa_cons (pv 1) pa_nil)) (pe_op op_sub (pv 0) pe_int) (nomark _)) (pss_one (ps_ret pe_int)) pss_nil)
        (pss_cons (ps_for (passes_of rfl) rfl (pi_range2 (by rfl) T.f_range (pa_cons pe_int (pa_cons (pv 0) pa_nil))) (pg_name (i := 2) nd rfl (Or.inl rfl)) (pss_one (ps_if (pt_cmpR op_isN1 (pe_cal c__law_f_chain hr (by omega) (fun σ => L2N.passAt (L2N.takes_of rfl rfl rfl rfl) σ) (pa_cons (pv 0) (pa_cons (pv 1) (pa_cons (pv 2) pa_nil)))) pe_non (nomark _)) (pss_one (ps_ret (pv 2))) pss_nil)))
        (pss_one (ps_ret pe_non)))), ?_⟩
  walk_at "st"
  refine r_lenL hp rfl ?_
  walk_at "st"
  refine ite_n (fun c => ?_) (fun c => ?_)
  · walk_at "st"
    exact k _ H (.inl ⟨fun e => c (by rw [hxl, e]; congr 1; omega), rfl⟩) .rfl
  have hl : ds.length = n - 1 := by have := V.int.inj c; omega
  walk_at "st"
  rw [show ((n : Int) - 1).toNat = n - 1 by omega]
  refine forW_range (fun i σ' H' => ∃ v, σ' = [some (.int n), some (.ref p), v] ∧ H = H' ∧ ∀ j : Nat, 1 ≤ j → j < 1 + i → 0 ≤ Lay.cl (nxd n ds) n j) ⟨none, rfl, rfl, fun j h1 h2 => by omega⟩ ?_ ?_
  · rintro i σ' H' hi ⟨v, rfl, rfl, hall⟩
    walk_at "st"
    refine ⟨n, 1 + i, p, xs, ds, by rw [Int.natCast_add]; rfl, by omega, hp, hd, hl, ?_⟩
    walk_at "st"
    unfold clV
    by_cases c : 0 ≤ Lay.cl (nxd n ds) n ((1 + i : Nat) : Int)
    · rw [if_pos c]
      refine ite_d (fun z => nomatch z) (fun _ => ?_)
      walk_at "st"
      refine ⟨_, rfl, rfl, fun j j1 j2 => ?_⟩
      by_cases e : j = 1 + i
      · subst e; exact c
      · exact hall j j1 (by omega)
    · rw [if_neg c]
      refine ite_d (fun _ => ?_) (fun z => absurd rfl z)
      walk_at "st"
      exact k _ H (.inr (.inl ⟨hl, 1 + i, by omega, by omega, hall, by rw [Int.natCast_add]; rfl⟩)) .rfl
  · rintro σ' H' ⟨v, rfl, rfl, hall⟩
    walk_at "st"
    exact k _ H (.inr (.inr ⟨hl, fun j j1 j2 => hall j j1 (by omega), rfl⟩)) .rfl

end
end K27
set_option maxRecDepth 100000
set_option maxHeartbeats 4000000
namespace K27
open PySem PySem.Spec PyProof.Rows L2 L3
local macro_rules | `(tactic| walk_at "s1") => `(tactic| first
  | with_reducible refine r_seq ?_
  | with_reducible refine r_asgN ?_
  | with_reducible refine r_ret ?_
  | with_reducible refine r_next ?_
  | ((with_reducible refine' r_var ?hv ?_); (case hv => exact rfl))
  | with_reducible refine r_c ?_
  | with_reducible refine r_op ?_
  | with_reducible refine r_cons ?_
  | with_reducible refine r_nil ?_
  | with_reducible refine r_plusI ?_
  | with_reducible refine r_I0 ?_
  | with_reducible refine r_test ?_
  | with_reducible refine r_bl ?_
  | with_reducible refine r_ifS ?_
  | with_reducible refine r_cb ?_
  | with_reducible refine r_callS ?_
  | with_reducible refine r_and ?_
  | with_reducible refine r_or ?_
  | with_reducible refine r_not ?_
  | with_reducible refine r_B ?_
  | ((with_reducible refine' r_aug ?hv ?_); (case hv => exact rfl))
  | with_reducible refine r_augS ?_
  | with_reducible refine r_ipI ?_
  | with_reducible refine r_asg ?_
  | with_reducible refine r_sub ?_
  | with_reducible refine r_brk ?_
  | with_reducible refine r_isN1 ?_
  | with_reducible refine r_notN1 ?_
  | with_reducible refine r_intI ?_
  | with_reducible refine r_abs ?_
  | with_reducible refine r_min ?_
  | with_reducible refine r_max ?_
  | ((with_reducible refine' r_mod ?hz ?_); (case hz => omega))
  | ((with_reducible refine' r_pow ?hz ?_); (case hz => exact ⟨by decide, by decide, by decide⟩))
  | ((with_reducible refine' r_rg1 ?hz ?_); (case hz => omega))
  | ((with_reducible refine' r_rg2 ?hz ?_); (case hz => omega))
  | ((with_reducible refine' r_newL ?hz ?_); (case hz => exact Nat.le_of_ble_eq_true rfl))
  | ((with_reducible refine' r_newT ?hz ?_); (case hz => exact Nat.le_of_ble_eq_true rfl))
  | with_reducible refine r_for ?_
  | with_reducible refine r_lc ?_
  | with_reducible refine r_iR1 ?_
  | with_reducible refine r_iR2 ?_
  | with_reducible refine r_iL ?_
  | with_reducible refine r_iT ?_
  | with_reducible refine r_gname ?_
  | with_reducible refine r_gcons ?_
  | with_reducible refine r_gnil ?_
  | with_reducible refine r_yes ?_
  | with_reducible refine r_mkO ?_
  | with_reducible refine r_cont ?_
  | with_reducible refine r_drop ?_
  | with_reducible refine r_retN ?_
  | with_reducible refine r_ifC ?_
  | with_reducible refine r_ifI ?_
  | with_reducible refine r_if ?_
  | with_reducible refine r_un ?_
  | with_reducible refine r_neg ?_
  | with_reducible refine r_andV ?_
  | with_reducible refine r_orV ?_
  | with_reducible refine r_notV ?_
  | with_reducible refine r_tup ?_
  | with_reducible refine r_lst ?_
  | with_reducible refine r_bm ?_
  | with_reducible refine r_bm0 ?_
  | with_reducible refine r_sl ?_
  | with_reducible refine r_chain ?_
  | with_reducible refine r_listDn ?_
  | with_reducible refine r_listRg2 ?_
  | with_reducible refine r_revL ?_
  | with_reducible refine r_noPart ?_
  | with_reducible refine r_part ?_
  | with_reducible refine r_int ?_
  | ((with_reducible refine' r_sameS ?hs ?_); (case hs => exact rfl))
  | ((with_reducible refine' r_otherS ?hs ?_); (case hs => exact rfl))
  | with_reducible refine ite_t ?_
  | with_reducible refine ite_f ?_
  | with_reducible refine ite_nt ?_
  | with_reducible refine ite_nf ?_)
local macro_rules | `(tactic| walk_at "st") => `(tactic| repeat (walk_at "s1"))

section
variable {P : Program} {w : World} {K : PySem.W.Frag} {mg : Str → Option Value} {base : Heap}
def spLJudge (K : PySem.W.Frag) : Sp := fun vs H Q _ => ∃ (n : Nat) (d r : Int) (p : Addr) (ds : List PyData), vs = [.int n, .int d, .int r, .ref p] ∧ (1 ≤ n ∧ n ≤ 400) ∧ Data K H p ds ∧ ∀ a x H', Judge n ds d r a → Ext H H' → Dp K H' x a.d → Q x H'
theorem sc__law_f_judged : FnScope ["n", "d", "r", "parents", "wrong", "joint", "loads", "part"] ["n", "d", "r", "parents"] (defScope s__law_f_judged) := ⟨rfl, rfl, rfl, by decide +kernel, rfl, by decide +kernel, by decide +kernel⟩
theorem ok_law_f_judged (T : Txt w K mg) : CalG P w K mg base 4 "_law_f_judged" ["n", "d", "r", "parents"] (spLJudge K) := by
  have c__law_f_chain := ok_law_f_chain (P := P) (base := base) T
  have c__law_f_fault := ok_law_f_fault (P := P) (base := base) T
  have c__law_f_loads := ok_law_f_loads (P := P) (base := base) T
  refine calG_of T.g__law_f_judged T.d__law_f_judged sc__law_f_judged (fun _ _ _ _ _ _ _ us hl => match us, hl with | [_, _, _, _], _ => rfl) (fun vs H Q E h => by obtain ⟨_, _, _, _, _, rfl, _⟩ := h; rfl) (fun cdv A outer s H vs Q E hr h => ?_)
  have nd := sc__law_f_judged.nd
  have hu := hu64 hr
  obtain ⟨n, d, r, p, ds, rfl, ⟨hn1, hn2⟩, ⟨xs, hp, hd⟩, k⟩ := h
  refine ⟨_, (pss_cons (ps_set (i := 4) nd rfl (Or.inl rfl) (pe_cal c__law_f_fault hr (by omega) (fun σ => L2N.passAt (L2N.takes_of rfl rfl rfl rfl) σ) (pa_cons (pv 0) (pa_cons (pv 3) pa_nil))))
        (pss_cons (ps_if (pt_cmpR op_notN1 (pv 4) pe_non (nomark _)) (pss_one (ps_ret (pe_tup (pa_cons pe_str (pa_cons (pv 4) pa_nil))))) pss_nil)
        (pss_cons (ps_for (passes_of rfl) rfl (pi_range2 (by rfl) T.f_range (pa_cons pe_int (pa_cons (pv 0) pa_nil))) (pg_name (i := 5) nd rfl (Or.inl rfl)) (pss_one (ps_if (pt_cmpR op_gt (pe_cal c__law_f_chain hr (by omega) (fun σ => L2N.passAt (L2N.takes_of rfl rfl rfl rfl) σ) (pa_cons (pv 0) (pa_cons (pv 3) (pa_cons (pv 5) pa_nil)))) (pv 1) (nomark _)) (pss_one (ps_ret (pe_tup (pa_cons pe_str (pa_cons (pv 5) pa_nil))))) pss_nil)))
        (pss_cons (ps_set (i := 6) nd rfl (Or.inl rfl) (pe_cal c__law_f_loads hr (by omega) (fun σ => L2N.passAt (L2N.takes_of rfl rfl rfl rfl) σ) (pa_cons (pv 0) (pa_cons (pv 3) pa_nil))))
        (pss_cons (ps_for (passes_of rfl) rfl (pi_range1 (by rfl) T.f_range (pa_cons (pv 0) pa_nil)) (pg_name (i := 7) nd rfl (Or.inl rfl)) (pss_one (ps_if (pt_cmpR op_gt (pe_ix (ixK (K := K)) (pv 6) (pv 7) (fun _ _ => rfl)) (pv 2) (nomark _)) (pss_one (ps_ret (pe_tup (pa_cons pe_str (pa_cons (pv 7) pa_nil))))) pss_nil)))
        (pss_one (ps_ret pe_non))))))), ?_⟩
  walk_at "st"
  refine ⟨n, p, xs, ds, rfl, ⟨by omega, by omega⟩, hp, hd, fun o H1 hw e1 => ?_⟩
  walk_at "st"
  rcases hw.split with rfl | ⟨i, rfl⟩
  rotate_left
  · refine ite_n (fun _ => ?_) (fun z => nomatch z)
    walk_at "st"
    intro q H2 hq e2 h2
    exact k _ _ H2 (.inl ⟨i, hw, rfl⟩) (e1.trans e2) (bad_dp h2)
  refine ite_n (fun z => absurd rfl z) (fun _ => ?_)
  walk_at "st"
  obtain ⟨hl, hall⟩ := hw.non
  have hpar := par_of hd hl hall
  rw [show ((n : Int) - 1).toNat = n - 1 by omega]
  refine forW_range (fun i σ' H' => ∃ v, σ' = [some (.int n), some (.int d), some (.int r), some (.ref p), some .non, v, none, none] ∧ H1 = H' ∧ ∀ j : Nat, 1 ≤ j → j < 1 + i → Lay.cl (nxd n ds) n j ≤ d) ⟨none, rfl, rfl, fun j h1 h2 => by omega⟩ ?_ ?_
  · rintro i σ' H' hi ⟨v, rfl, rfl, hall2⟩
    walk_at "st"
    refine ⟨n, 1 + i, p, xs, ds, by rw [Int.natCast_add]; rfl, by omega, e1.l hp, e1.dps _ hd, hl, ?_⟩
    have c := hall (1 + i) (by omega) (by omega)
    unfold clV
    rw [if_pos c]
    walk_at "st"
    refine ite_d (fun c => ?_) (fun c => ?_)
    · walk_at "st"
      intro t H3 ht e3 h3
      rw [show (1 : Int) + (i : Int) = ((1 + i : Nat) : Int) by omega] at h3
      exact k _ _ H3 (.inr ⟨hw, .inl ⟨1 + i, by omega, c, fun i' a b => hall2 i' a b, rfl⟩⟩) (e1.trans e3) (bad_dp h3)
    · walk_at "st"
      refine ⟨_, rfl, rfl, fun j j1 j2 => ?_⟩
      by_cases e : j = 1 + i
      · subst e; omega
      · exact hall2 j j1 (by omega)
  rintro σ' H' ⟨v, rfl, rfl, hall2⟩
  have hall2' : ∀ j : Nat, 1 ≤ j → j < n → Lay.cl (nxd n ds) n j ≤ d := fun j a b => hall2 j a (by omega)
  walk_at "st"
  refine ⟨n, p, xs, nxd n ds, rfl, ⟨by omega, by omega⟩, e1.l hp, hpar, fun q2 H3 hq2 e3 h3 => ?_⟩
  have e03 := e1.trans e3
  walk_at "st"
  rw [show ((n : Int)).toNat = n by omega]
  refine forW_range (fun i σ' H' => ∃ v2, σ' = [some (.int n), some (.int d), some (.int r), some (.ref p), some .non, v, some (.ref q2), v2] ∧ H3 = H' ∧ ∀ j : Nat, j < i → Lay.load (nxd n ds) n j ≤ r) ⟨none, rfl, rfl, fun j h1 => by omega⟩ ?_ ?_
  · rintro i σ' H' hi ⟨v2, rfl, rfl, hall3⟩
    walk_at "st"
    rw [show (0 : Int) + (i : Int) = ((i : Nat) : Int) by omega]
    refine r_atL (sqL h3) (atI_nat (ldV_at hi)) ?_
    walk_at "st"
    refine ite_d (fun c => ?_) (fun c => ?_)
    · walk_at "st"
      intro t H4 ht e4 h4
      exact k _ _ H4 (.inr ⟨hw, .inr ⟨hall2', .inl ⟨i, hi, c, hall3, rfl⟩⟩⟩) (e03.trans e4) (bad_dp h4)
    · walk_at "st"
      refine ⟨_, rfl, rfl, fun j j1 => ?_⟩
      by_cases e : j = i
      · subst e; omega
      · exact hall3 j (by omega)
  rintro σ' H' ⟨v2, rfl, rfl, hall3⟩
  walk_at "st"
  exact k .ok _ H3 (.inr ⟨hw, .inr ⟨hall2', .inr ⟨hall3, rfl⟩⟩⟩) e03 .non
/-! ### asked -/
def Tell (Q : VK) (H : Hp) (c what : Str) : Prop := ∀ q H', Ext H H' → H' q = some (.tup [.str c, .str what]) → Q (.ref q) H'
def spAsk (K : PySem.W.Frag) : Sp := fun vs H Q _ => ∃ (which n d r : Int) (p : Addr) (ds : List PyData), vs = [.int which, .int n, .int d, .int r, .ref p] ∧ (0 ≤ which ∧ which ≤ 2) ∧ Data K H p ds ∧ (400 < n → Tell Q H "TooMany" "layout") ∧ (n ≤ 400 → n < 1 → Tell Q H "BadLayout" "parts") ∧
  (1 ≤ n → n ≤ 400 → (which < 2 → ∀ i, WP n.toNat ds (.int i) → Tell Q H "BadLayout" "parent") ∧
    (which = 0 → WP n.toNat ds .non → ∀ q p' H', H p' = none → Ext H H' → H' p' = some (.lst ((chV (nxd n.toNat ds) n.toNat).map V.int)) → H' q = some (.tup [.str "told", .ref p']) → Q (.ref q) H') ∧
    (which = 1 → WP n.toNat ds .non → ∀ q p' H', H p' = none → Ext H H' → H' p' = some (.lst ((ldI (nxd n.toNat ds) n.toNat).map V.int)) → H' q = some (.tup [.str "told", .ref p']) → Q (.ref q) H') ∧
    (which = 2 → ∀ a x q H', Judge n.toNat ds d r a → Ext H H' → Dp K H' x a.d → H' q = some (.tup [.str "told", x]) → Q (.ref q) H'))
theorem sc__law_f_asked : FnScope ["which", "n", "d", "r", "parents", "error"] ["which", "n", "d", "r", "parents"] (defScope s__law_f_asked) := ⟨rfl, rfl, rfl, by decide +kernel, rfl, by decide +kernel, by decide +kernel⟩
theorem ok_law_f_asked (T : Txt w K mg) : CalG P w K mg base 9 "_law_f_asked" ["which", "n", "d", "r", "parents"] (spAsk K) := by
  have c_fault : FaultG P w K mg base faultL := ok_fault T
  have c_chain_lengths := ok_chain_lengths (P := P) (base := base) T
  have c_part_loads := ok_part_loads (P := P) (base := base) T
  have c_judge_layout := ok_judge_layout (P := P) (base := base) T
  refine calG_of T.g__law_f_asked T.d__law_f_asked sc__law_f_asked (fun _ _ _ _ _ _ _ us hl => match us, hl with | [_, _, _, _, _], _ => rfl) (fun vs H Q E h => by obtain ⟨_, _, _, _, _, _, rfl, _⟩ := h; rfl) (fun cdv A outer s H vs Q E hr h => ?_)
  have nd := sc__law_f_asked.nd
  have hu := hu64 hr
  obtain ⟨which, n, d, r, p, ds, rfl, ⟨w0, w2⟩, hD, b1, b2, k⟩ := h
  refine ⟨_, (pss_one (ps_tryZ (i := 5) (ts := fun a cls d => tRet (tCallS (spFlts K faultL a cls d) (WE fun _ _ _ _ => False) (tCons (tVar 5) tNil))) rfl rfl nd rfl rfl ⟨rfl, by decide, Or.inl T.g_OutsideError⟩ (L2N.takes_of rfl rfl rfl rfl) (fun W z => (pss_cons (ps_if (pt_cmpR (sameK (K := K) hu) (pv 0) pe_int (nomark _)) (pss_one (ps_ret (pe_tup (pa_cons pe_str (pa_cons (pe_cal c_chain_lengths hr (by omega) (fun σ => L2N.passAt z.tk σ) (pa_cons (pv 1) (pa_cons (pv 4) pa_nil))) pa_nil))))) pss_nil)
        (pss_cons (ps_if (pt_cmpR (sameK (K := K) hu) (pv 0) pe_int (nomark _)) (pss_one (ps_ret (pe_tup (pa_cons pe_str (pa_cons (pe_cal c_part_loads hr (by omega) (fun σ => L2N.passAt z.tk σ) (pa_cons (pv 1) (pa_cons (pv 4) pa_nil))) pa_nil))))) pss_nil)
        (pss_one (ps_ret (pe_tup (pa_cons pe_str (pa_cons (pe_cal c_judge_layout hr (by omega) (fun σ => L2N.passAt z.tk σ) (pa_cons (pv 1) (pa_cons (pv 2) (pa_cons (pv 3) (pa_cons (pv 4) pa_nil))))) pa_nil)))))))) (fun a oe cls d pn hz hf => (pss_one (ps_ret (pe_fault c_fault (L2H.roomH_mark (hr.mono (by omega)) _) hz (hotOf hz hf) (List.mem_cons_self) (pv 5))))))), ?_⟩
  have inl1 : (("TooMany" : Str), (["what"] : List Str)) ∈ faultL := by simp [faultL]
  have inl2 : (("BadLayout" : Str), (["what"] : List Str)) ∈ faultL := by simp [faultL]
  have ex1 := T.kits.exm "TooMany" (by simp [errs])
  have ex2 := T.kits.exm "BadLayout" (by simp [errs])
  intro z
  walk_at "st"
  refine ite_d (fun c0 => ?_) (fun c0 => ?_)
  · have c0 : which = 0 := V.int.inj c0
    walk_at "st"
    refine ⟨n, p, ds, rfl, hD, fun c => ?_, fun c1 c2 => ?_, fun n1 n2 => ⟨fun i hi => ?_, fun hw q H1 hq e1 h1 => ?_⟩⟩
    · exact bad_tell ex1 inl1 (Nat.le_of_ble_eq_true rfl) fun q H' e h => b1 c q H' e h
    · exact bad_tell ex2 inl2 (Nat.le_of_ble_eq_true rfl) fun q H' e h => b2 c1 c2 q H' e h
    · exact bad_tell ex2 inl2 (Nat.le_of_ble_eq_true rfl) fun q H' e h => (k n1 n2).1 (by omega) i hi q H' e h
    · walk_at "st"
      intro q2 H2 hq2 e2 h2
      exact (k n1 n2).2.1 c0 hw q2 q H2 hq (e1.trans e2) (e2 _ _ h1) h2
  have c0 : which ≠ 0 := fun e => c0 (by rw [e])
  walk_at "st"
  refine ite_d (fun c1 => ?_) (fun c1 => ?_)
  · have c1 : which = 1 := V.int.inj c1
    walk_at "st"
    refine ⟨n, p, ds, rfl, hD, fun c => ?_, fun c1 c2 => ?_, fun n1 n2 => ⟨fun i hi => ?_, fun hw q H1 hq e1 h1 => ?_⟩⟩
    · exact bad_tell ex1 inl1 (Nat.le_of_ble_eq_true rfl) fun q H' e h => b1 c q H' e h
    · exact bad_tell ex2 inl2 (Nat.le_of_ble_eq_true rfl) fun q H' e h => b2 c1 c2 q H' e h
    · exact bad_tell ex2 inl2 (Nat.le_of_ble_eq_true rfl) fun q H' e h => (k n1 n2).1 (by omega) i hi q H' e h
    · walk_at "st"
      intro q2 H2 hq2 e2 h2
      exact (k n1 n2).2.2.1 c1 hw q2 q H2 hq (e1.trans e2) (e2 _ _ h1) h2
  have c1 : which ≠ 1 := fun e => c1 (by rw [e])
  walk_at "st"
  refine ⟨n, d, r, p, ds, rfl, hD, fun c => ?_, fun c1 c2 => ?_, fun n1 n2 a x H1 hj e1 hx => ?_⟩
  · exact bad_tell ex1 inl1 (Nat.le_of_ble_eq_true rfl) fun q H' e h => b1 c q H' e h
  · exact bad_tell ex2 inl2 (Nat.le_of_ble_eq_true rfl) fun q H' e h => b2 c1 c2 q H' e h
  · walk_at "st"
    intro q2 H2 hq2 e2 h2
    exact (k n1 n2).2.2.2 (by omega) a x q2 H2 hj (e1.trans e2) (e2.dp _ hx) h2
/-! ### both looks agree -/
theorem wp_ex (n : Nat) (ds : List PyData) : ∃ o, WP n ds o := by
  by_cases hl : ds.length = n - 1
  · by_cases h : ∀ j : Nat, 1 ≤ j → j < n → 0 ≤ Lay.cl (nxd n ds) n j
    · exact ⟨.non, .inr (.inr ⟨hl, h, rfl⟩)⟩
    · have key : ∀ m : Nat, m ≤ n → (∀ j : Nat, 1 ≤ j → j < m → 0 ≤ Lay.cl (nxd n ds) n j) ∨ ∃ j : Nat, (1 ≤ j ∧ j < n) ∧ Lay.cl (nxd n ds) n j < 0 ∧ (∀ i : Nat, 1 ≤ i → i < j → 0 ≤ Lay.cl (nxd n ds) n i) := by
        intro m
        induction m with
        | zero => intro _; exact .inl fun j _ h => absurd h (Nat.not_lt_zero _)
        | succ m ih =>
          intro hm
          rcases ih (by omega) with h | h
          · by_cases c : 1 ≤ m ∧ Lay.cl (nxd n ds) n m < 0
            · exact .inr ⟨m, ⟨c.1, by omega⟩, c.2, h⟩
            · refine .inl fun j a b => ?_
              by_cases e : j = m
              · subst e; omega
              · exact h j a (by omega)
          · exact .inr h
      rcases key n (Nat.le_refl _) with h' | ⟨j, h1, h2, h3⟩
      · exact absurd h' h
      · exact ⟨.int j, .inr (.inl ⟨hl, j, h1, h2, h3, rfl⟩)⟩
  · exact ⟨.int 0, .inl ⟨hl, rfl⟩⟩
theorem judge_dp {K : PySem.W.Frag} {H : Hp} {q : Addr} {x : V} {d : PyData} (h : H q = some (.tup [.str "told", x])) (hx : Dp K H x d) : Dp K H (.ref q) (.tuple [.str "told", d]) := .tup (sqT h) (.cons (.str _) (.cons hx .nil))
theorem told_small {n : Nat} {d : PyData} (h : smallD (n + 1) d) : smallD (n + 2) (.tuple [.str "told", d]) := small_tup (by show 2 ≤ 100000; decide) (fun e he => by
  simp at he
  rcases he with rfl | rfl
  · exact small_str _ _
  · exact h)
def errD : PyData := .tuple [.str "BadLayout", .str "parent"]
theorem errD_small : smallD 2 errD := small_tup (by show 2 ≤ 100000; decide) (fun e he => by
  simp at he
  rcases he with rfl | rfl
  · exact small_str _ _
  · exact small_str _ _)
theorem err_dp {K : PySem.W.Frag} {q : Addr} {H : Hp} (h : H q = some (.tup [.str "BadLayout", .str "parent"])) : Dp K H (.ref q) errD := .tup (sqT h) (.cons (.str _) (.cons (.str _) .nil))
theorem chV_len (nx : Int → Int) (n : Nat) : (chV nx n).length = n - 1 := by unfold chV; rw [List.length_map, List.length_range]
theorem ldI_len (nx : Int → Int) (n : Nat) : (ldI nx n).length = n := by unfold ldI; rw [List.length_map, List.length_range]
def spAgree (K : PySem.W.Frag) : Sp := fun vs H Q _ => ∃ (n : Nat) (d r : Int) (p : Addr) (ds : List PyData), vs = [.int n, .int d, .int r, .ref p] ∧ (1 ≤ n ∧ n ≤ 400) ∧ Data K H p ds ∧ smallD 3 (.list ds) ∧ ∀ H', Ext H H' → Q (.bl true) H'
theorem sc__law_f_agree : FnScope ["n", "d", "r", "parents", "kept", "first", "second", "chains", "joint"] ["n", "d", "r", "parents"] (defScope s__law_f_agree) := ⟨rfl, rfl, rfl, by decide +kernel, rfl, by decide +kernel, by decide +kernel⟩
theorem ok_law_f_agree (T : Txt w K mg) : CalG P w K mg base 10 "_law_f_agree" ["n", "d", "r", "parents"] (spAgree K) := by
  have c__law_copied := ok_law_copied (P := P) (base := base) T 3
  have c__law_same := ok_law_same (P := P) (base := base) T 3
  have c__law_f_asked := ok_law_f_asked (P := P) (base := base) T
  have c__law_f_judged := ok_law_f_judged (P := P) (base := base) T
  have c__law_f_fault := ok_law_f_fault (P := P) (base := base) T
  have c__law_f_chain := ok_law_f_chain (P := P) (base := base) T
  have c__law_f_loads := ok_law_f_loads (P := P) (base := base) T
  refine calG_of T.g__law_f_agree T.d__law_f_agree sc__law_f_agree (fun _ _ _ _ _ _ _ us hl => match us, hl with | [_, _, _, _], _ => rfl) (fun vs H Q E h => by obtain ⟨_, _, _, _, _, rfl, _⟩ := h; rfl) (fun cdv A outer s H vs Q E hr h => ?_)
  have nd := sc__law_f_agree.nd
  have hu := hu64 hr
  obtain ⟨n, d, r, p, ds, rfl, ⟨hn1, hn2⟩, hD, hsm, k⟩ := h
  have n1 : (1 : Int) ≤ n := by omega
  have n2 : (n : Int) ≤ 400 := by omega
  obtain ⟨o, hw⟩ := wp_ex n ds
  refine ⟨_, (pss_cons (ps_set (i := 4) nd rfl (Or.inr rfl) (pe_cal c__law_copied hr (by omega) (fun σ => L2N.passAt (L2N.takes_of rfl rfl rfl rfl) σ) (pa_cons (pv 3) pa_nil)))
        (pss_cons (ps_if (pt_not (pt_val (pe_cal c__law_same hr (by omega) (fun σ => L2N.passAt (L2N.takes_of rfl rfl rfl rfl) σ) (pa_cons (pe_cal c__law_f_asked hr (by omega) (fun σ => L2N.passAt (L2N.takes_of rfl rfl rfl rfl) σ) (pa_cons pe_int (pa_cons (pv 0) (pa_cons (pv 1) (pa_cons (pv 2) (pa_cons (pv 3) pa_nil)))))) (pa_cons (pe_tup (pa_cons pe_str (pa_cons (pe_cal c__law_f_judged hr (by omega) (fun σ => L2N.passAt (L2N.takes_of rfl rfl rfl rfl) σ) (pa_cons (pv 0) (pa_cons (pv 1) (pa_cons (pv 2) (pa_cons (pv 4) pa_nil))))) pa_nil))) pa_nil))))) (pss_one (ps_ret pe_bl)) pss_nil)
        (pss_cons (ps_set (i := 5) nd rfl (Or.inl rfl) (pe_cal c__law_f_asked hr (by omega) (fun σ => L2N.passAt (L2N.takes_of rfl rfl rfl rfl) σ) (pa_cons pe_int (pa_cons (pv 0) (pa_cons (pv 1) (pa_cons (pv 2) (pa_cons (pv 3) pa_nil)))))))
        (pss_cons (ps_set (i := 6) nd rfl (Or.inl rfl) (pe_cal c__law_f_asked hr (by omega) (fun σ => L2N.passAt (L2N.takes_of rfl rfl rfl rfl) σ) (pa_cons pe_int (pa_cons (pv 0) (pa_cons (pv 1) (pa_cons (pv 2) (pa_cons (pv 3) pa_nil)))))))
        (pss_cons (ps_if (pt_not (pt_val (pe_cal c__law_same hr (by omega) (fun σ => L2N.passAt (L2N.takes_of rfl rfl rfl rfl) σ) (pa_cons (pv 3) (pa_cons (pv 4) pa_nil))))) (pss_one (ps_ret pe_bl)) pss_nil)
        (pss_cons (ps_if (pt_cmpR op_notN1 (pe_cal c__law_f_fault hr (by omega) (fun σ => L2N.passAt (L2N.takes_of rfl rfl rfl rfl) σ) (pa_cons (pv 0) (pa_cons (pv 4) pa_nil))) pe_non (nomark _)) (pss_one (ps_ret (pe_cal c__law_same hr (by omega) (fun σ => L2N.passAt (L2N.takes_of rfl rfl rfl rfl) σ) (pa_cons (pe_lst (pa_cons (pv 5) (pa_cons (pv 6) pa_nil))) (pa_cons (pe_lst (pa_cons (pe_tup (pa_cons pe_str (pa_cons pe_str pa_nil))) (pa_cons (pe_tup (pa_cons pe_str (pa_cons pe_str pa_nil))) pa_nil))) pa_nil))))) pss_nil)
        (pss_cons (ps_setLc (i := 7) (own := [("joint", 8)]) rfl nd rfl rfl (sw_true rfl rfl rfl (by decide +kernel)) (pi_range2 (by rfl) T.f_range (pa_cons pe_int (pa_cons (pv 0) pa_nil))) (blkOk_by (N := ["n", "d", "r", "parents", "kept", "first", "second", "chains", "joint"]) (sc := defScope s__law_f_agree) (by decide +kernel)) (fun _ _ _ _ _ => (pg_name (i := 8) nd rfl (Or.inl rfl))) (fun _ _ _ _ _ => pts_nil) (fun _ _ _ _ _ => (pe_cal c__law_f_chain hr (by omega) passN (pa_cons (pv 0) (pa_cons (pv 4) (pa_cons (pv 8) pa_nil))))))
        (pss_cons (ps_if (PW.pt (pw_or (pt_not (pt_val (pe_cal c__law_same hr (by omega) (fun σ => L2N.passAt (L2N.takes_of rfl rfl rfl rfl) σ) (pa_cons (pv 5) (pa_cons (pe_tup (pa_cons pe_str (pa_cons (pv 7) pa_nil))) pa_nil))))) (pw_or1 (pt_not (pt_val (pe_cal c__law_same hr (by omega) (fun σ => L2N.passAt (L2N.takes_of rfl rfl rfl rfl) σ) (pa_cons (pv 6) (pa_cons (pe_tup (pa_cons pe_str (pa_cons (pe_cal c__law_f_loads hr (by omega) (fun σ => L2N.passAt (L2N.takes_of rfl rfl rfl rfl) σ) (pa_cons (pv 0) (pa_cons (pv 4) pa_nil))) pa_nil))) pa_nil)))))))) (pss_one (ps_ret pe_bl)) pss_nil)
        (pss_cons (ps_expr (peBM (K := K) (pe_bm PySem.F.plainAttrs_list PySem.F.slot_list_append PySem.F.type_list_append mt_append (pe_ix (ixK (K := K)) (pv 5) pe_int (fun _ _ => rfl)) (pa_cons pe_int pa_nil))))
        (pss_cons (ps_expr (peBM (K := K) (pe_bm PySem.F.plainAttrs_list PySem.F.slot_list_append PySem.F.type_list_append mt_append (pe_ix (ixK (K := K)) (pv 6) pe_int (fun _ _ => rfl)) (pa_cons pe_int pa_nil))))
        (pss_one (ps_ret (pe_cal c__law_same hr (by omega) (fun σ => L2N.passAt (L2N.takes_of rfl rfl rfl rfl) σ) (pa_cons (pe_cal c__law_f_asked hr (by omega) (fun σ => L2N.passAt (L2N.takes_of rfl rfl rfl rfl) σ) (pa_cons pe_int (pa_cons (pv 0) (pa_cons (pv 1) (pa_cons (pv 2) (pa_cons (pv 3) pa_nil)))))) (pa_cons (pe_tup (pa_cons pe_str (pa_cons (pv 7) pa_nil))) pa_nil))))))))))))))), ?_⟩
  walk_at "st"
  obtain ⟨xs, hp, hd⟩ := hD
  refine ⟨.ref p, .list ds, rfl, .lst hp hd, hsm, fun y H1 e1 hc => ?_⟩
  have hy := hc H1 fun _ _ _ h => h
  obtain ⟨kp, rfl⟩ : ∃ kp, y = .ref kp := by cases hy; exact ⟨_, rfl⟩
  have hkd : Data K H1 kp ds := by cases hy with | lst h hs => exact ⟨_, h, hs⟩
  have hD1 : Data K H1 p ds := ⟨xs, e1.l hp, e1.dps _ hd⟩
  walk_at "st"
  refine ⟨2, n, d, r, p, ds, rfl, by decide, hD1, fun c => absurd c (by omega), fun _ c => absurd c (by omega), fun _ _ => ⟨fun c => absurd c (by decide), fun c => absurd c (by decide), fun c => absurd c (by decide), fun _ a x q H2 hj e2 hx hq => ?_⟩⟩
  rw [Int.toNat_natCast] at hj
  walk_at "st"
  refine ⟨n, d, r, kp, ds, rfl, ⟨hn1, hn2⟩, hkd.ext e2, fun a' x' H3 hj' e3 hx' => ?_⟩
  have ea := hj.uniq hj'
  subst ea
  walk_at "st"
  intro t H4 ht e4 h4
  walk_at "st"
  refine ⟨.ref q, .ref t, .tuple [.str "told", a.d], rfl, (e3.trans e4).dp _ (judge_dp hq hx), judge_dp h4 (e4.dp _ hx'), told_small a.small, fun H5 e5 => ?_⟩
  have e15 := e2.trans (e3.trans (e4.trans e5))
  have hD5 := hD1.ext e15
  walk_at "st"
  refine ⟨0, n, d, r, p, ds, rfl, by decide, hD5, fun c => absurd c (by omega), fun _ c => absurd c (by omega), fun _ _ => ⟨fun _ i hwi q1 H6 e6 h6 => ?_, fun _ hwn q1 p1 H6 hp1 e6 h6 hq1 => ?_, fun c => absurd c (by decide), fun c => absurd c (by decide)⟩⟩
  -- a wrong parent
  · rw [Int.toNat_natCast] at hwi
    walk_at "st"
    refine ⟨1, n, d, r, p, ds, rfl, by decide, hD5.ext e6, fun c => absurd c (by omega), fun _ c => absurd c (by omega), fun _ _ => ⟨fun _ i' hwi' q2 H7 e7 h7 => ?_, fun c => absurd c (by decide), fun _ hwn => ?_, fun c => absurd c (by decide)⟩⟩
    rotate_left
    · rw [Int.toNat_natCast] at hwn
      cases hwn.uniq hwi
    have e17 := e15.trans (e6.trans e7)
    walk_at "st"
    refine ⟨.ref p, .ref kp, .list ds, rfl, .lst ((e1.trans e17).l hp) ((e1.trans e17).dps _ hd), by obtain ⟨ys, h, hs⟩ := hkd.ext e17; exact .lst h hs, hsm, fun H8 e8 => ?_⟩
    have e18 := e17.trans e8
    walk_at "st"
    obtain ⟨ys, hk, hks⟩ := hkd.ext e18
    refine ⟨n, kp, ys, ds, rfl, ⟨hn1, hn2⟩, hk, hks, fun o' H9 hw' e9 => ?_⟩
    have eo := hw'.uniq hwi
    subst eo
    walk_at "st"
    refine ite_n (fun _ => ?_) (fun z => nomatch z)
    walk_at "st"
    intro l1 H10 hl1 e10 h10
    walk_at "st"
    intro t1 H11 ht1 e11 h11
    walk_at "st"
    intro t2 H12 ht2 e12 h12
    walk_at "st"
    intro l2 H13 hl2 e13 h13
    walk_at "st"
    have e713 := e8.trans (e9.trans (e10.trans (e11.trans (e12.trans e13))))
    have s2 : smallD 3 (.list [errD, errD]) := small_list (by show 2 ≤ 100000; decide) (fun e he => by
      simp at he
      rw [he]
      exact errD_small)
    refine ⟨.ref l1, .ref l2, .list [errD, errD], rfl, .lst (sqL ((e11.trans (e12.trans e13)) _ _ h10)) (.cons (err_dp ((e7.trans e713) _ _ h6)) (.cons (err_dp (e713 _ _ h7)) .nil)), .lst (sqL h13) (.cons (err_dp ((e12.trans e13) _ _ h11)) (.cons (err_dp (e13 _ _ h12)) .nil)), s2, fun H14 e14 => ?_⟩
    exact k H14 (e1.trans (e17.trans (e713.trans e14)))
  -- none
  · rw [Int.toNat_natCast] at hwn h6
    walk_at "st"
    refine ⟨1, n, d, r, p, ds, rfl, by decide, hD5.ext e6, fun c => absurd c (by omega), fun _ c => absurd c (by omega), fun _ _ => ⟨fun _ i' hwi' => ?_, fun c => absurd c (by decide), fun _ _ q2 p2 H7 hp2 e7 h7 hq2 => ?_, fun c => absurd c (by decide)⟩⟩
    · rw [Int.toNat_natCast] at hwi'
      cases hwn.uniq hwi'
    rw [Int.toNat_natCast] at h7
    have e17 := e15.trans (e6.trans e7)
    walk_at "st"
    refine ⟨.ref p, .ref kp, .list ds, rfl, .lst ((e1.trans e17).l hp) ((e1.trans e17).dps _ hd), by obtain ⟨ys, h, hs⟩ := hkd.ext e17; exact .lst h hs, hsm, fun H8 e8 => ?_⟩
    have e18 := e17.trans e8
    walk_at "st"
    obtain ⟨ys, hk, hks⟩ := hkd.ext e18
    refine ⟨n, kp, ys, ds, rfl, ⟨hn1, hn2⟩, hk, hks, fun o' H9 hw' e9 => ?_⟩
    have eo := hw'.uniq hwn
    subst eo
    walk_at "st"
    refine ite_n (fun z => absurd rfl z) (fun _ => ?_)
    obtain ⟨hl, hall⟩ := hwn.non
    have hk9 := e9.l hk
    have hks9 := e9.dps _ hks
    walk_at "st"
    intro D hDl
    rw [show ((n : Int) - 1).toNat = n - 1 by omega]
    refine lcW_range (LcP H9 D fun k => .int (Lay.cl (nxd n ds) n ((k : Int) + 1))) (.start hDl) (fun i H10 hi pl => ?_) (fun H10 pl => ?_)
    · walk_at "st"
      refine r_lcW rfl ?_
      walk_at "st"
      refine ⟨n, 1 + i, kp, ys, ds, by rw [Int.natCast_add]; rfl, by omega, pl.e.l hk9, pl.e.dps _ hks9, hl, ?_⟩
      have c := hall (1 + i) (by omega) (by omega)
      unfold clV
      rw [if_pos c]
      refine pl.push hDl (by omega) .rfl ?_
      rw [show ((1 + i : Nat) : Int) = (i : Int) + 1 by omega]
    have hch : H10 D = some (.lst ((chV (nxd n ds) n).map V.int)) := by
      rw [pl.d]
      unfold chV
      rw [List.map_map]
      rfl
    have e10 := pl.e
    walk_at "st"
    intro t1 H11 ht1 e11 h11
    walk_at "st"
    have e711 := e8.trans (e9.trans (e10.trans e11))
    have sm : ∀ {ns : List Int}, ns.length ≤ 400 → smallD 3 (.tuple [.str "told", .list (ns.map PyData.int)]) := fun {ns} h => told_small (small_ints 0 (by omega))
    have dpl : ∀ {G : Hp} {q p : Addr} {ns : List Int}, G q = some (.tup [.str "told", .ref p]) → G p = some (.lst (ns.map V.int)) → Dp K G (.ref q) (.tuple [.str "told", .list (ns.map PyData.int)]) := fun h1 h2 => judge_dp h1 (.lst (sqL h2) (dps_ints _))
    refine ⟨.ref q1, .ref t1, _, rfl, dpl ((e7.trans e711) _ _ hq1) ((e7.trans e711) _ _ h6), dpl h11 (e11 _ _ hch), sm (by rw [chV_len]; omega), fun H12 e12 => ?_⟩
    walk_at "st"
    have e912 := e10.trans (e11.trans e12)
    refine ⟨n, kp, ys, nxd n ds, rfl, ⟨hn1, hn2⟩, e912.l hk9, par_of (e912.dps _ hks9) hl hall, fun q5 H13 hq5 e13 h13 => ?_⟩
    rw [ldV_eq] at h13
    walk_at "st"
    intro t2 H14 ht2 e14 h14
    walk_at "st"
    have e714 := e711.trans (e12.trans (e13.trans e14))
    refine ⟨.ref q2, .ref t2, _, rfl, dpl (e714 _ _ hq2) (e714 _ _ h7), dpl h14 (e14 _ _ h13), sm (by rw [ldI_len]; omega), fun H15 e15' => ?_⟩
    have e715 := e714.trans e15'
    have e615 := e7.trans e715
    walk_at "st"
    refine r_atT (sqT (e615 _ _ hq1)) (atI_nat (j := 1) rfl) ?_
    refine ⟨.inl ⟨rfl, _, sqL (e615 _ _ h6)⟩, ?_⟩
    walk_at "st"
    refine r_app (e615 _ _ h6) (by rw [List.length_map, chV_len]; omega) (fun H16 h16 n16 => ?_)
    have np : p2 ≠ p1 := (ne_of_none h6 hp2).symm
    have nq1 : q2 ≠ p1 := fun e => by
      have a := e715 _ _ hq2
      rw [e, e615 _ _ h6] at a
      cases a
    walk_at "st"
    refine r_atT (sqT (stay n16 nq1 (e715 _ _ hq2))) (atI_nat (j := 1) rfl) ?_
    have h7' := stay n16 np (e715 _ _ h7)
    refine ⟨.inl ⟨rfl, _, sqL h7'⟩, ?_⟩
    walk_at "st"
    refine r_app h7' (by rw [List.length_map, ldI_len]; omega) (fun H17 h17 n17 => ?_)
    walk_at "st"
    have e5_15 := e6.trans e615
    have hp2' : H5 p2 = none := e6.none hp2
    have e5_17 : Ext H5 H17 := mut_ext (mut_ext e5_15 hp1 n16) hp2' n17
    have e9_15 : Ext H9 H15 := e912.trans (e13.trans (e14.trans e15'))
    have ndp : ∀ {x : Addr} {u : HO}, H10 x = some u → H9 x = none → x ≠ p1 ∧ x ≠ p2 := fun {x u} h hn => by
      have a6 := (e7.trans (e8.trans e9)) _ _ h6
      have a7 := (e8.trans e9) _ _ h7
      exact ⟨fun e => (by rw [e, a6] at hn; cases hn), fun e => (by rw [e, a7] at hn; cases hn)⟩
    obtain ⟨nD1, nD2⟩ := ndp hch hDl
    have hch17 : H17 D = some (.lst ((chV (nxd n ds) n).map V.int)) := stay n17 nD2 (stay n16 nD1 ((e11.trans (e12.trans (e13.trans (e14.trans e15')))) _ _ hch))
    refine ⟨0, n, d, r, p, ds, rfl, by decide, hD5.ext e5_17, fun c => absurd c (by omega), fun _ c => absurd c (by omega), fun _ _ => ⟨fun _ i' hwi' => ?_, fun _ _ q9 p9 H18 hp9 e18' h18 hq9 => ?_, fun c => absurd c (by decide), fun c => absurd c (by decide)⟩⟩
    · rw [Int.toNat_natCast] at hwi'
      cases hwn.uniq hwi'
    rw [Int.toNat_natCast] at h18
    walk_at "st"
    intro t3 H19 ht3 e19 h19
    walk_at "st"
    refine ⟨.ref q9, .ref t3, _, rfl, dpl (e19 _ _ hq9) (e19 _ _ h18), dpl h19 ((e18'.trans e19) _ _ hch17), sm (by rw [chV_len]; omega), fun H20 e20 => ?_⟩
    exact k H20 (e1.trans (e15.trans (e5_17.trans (e18'.trans (e19.trans e20)))))

end
end K27
set_option maxRecDepth 100000
set_option maxHeartbeats 4000000
namespace K27
open PySem PySem.Spec PyProof.Rows L2 L3
local macro_rules | `(tactic| walk_at "s1") => `(tactic| first
  | with_reducible refine r_seq ?_
  | with_reducible refine r_asgN ?_
  | with_reducible refine r_ret ?_
  | with_reducible refine r_next ?_
  | ((with_reducible refine' r_var ?hv ?_); (case hv => exact rfl))
  | with_reducible refine r_c ?_
  | with_reducible refine r_op ?_
  | with_reducible refine r_cons ?_
  | with_reducible refine r_nil ?_
  | with_reducible refine r_plusI ?_
  | with_reducible refine r_I0 ?_
  | with_reducible refine r_test ?_
  | with_reducible refine r_bl ?_
  | with_reducible refine r_ifS ?_
  | with_reducible refine r_cb ?_
  | with_reducible refine r_callS ?_
  | with_reducible refine r_and ?_
  | with_reducible refine r_or ?_
  | with_reducible refine r_not ?_
  | with_reducible refine r_B ?_
  | ((with_reducible refine' r_aug ?hv ?_); (case hv => exact rfl))
  | with_reducible refine r_augS ?_
  | with_reducible refine r_ipI ?_
  | with_reducible refine r_asg ?_
  | with_reducible refine r_sub ?_
  | with_reducible refine r_brk ?_
  | with_reducible refine r_isN1 ?_
  | with_reducible refine r_notN1 ?_
  | with_reducible refine r_intI ?_
  | with_reducible refine r_abs ?_
  | with_reducible refine r_min ?_
  | with_reducible refine r_max ?_
  | ((with_reducible refine' r_mod ?hz ?_); (case hz => omega))
  | ((with_reducible refine' r_pow ?hz ?_); (case hz => exact ⟨by decide, by decide, by decide⟩))
  | ((with_reducible refine' r_rg1 ?hz ?_); (case hz => omega))
  | ((with_reducible refine' r_rg2 ?hz ?_); (case hz => omega))
  | ((with_reducible refine' r_newL ?hz ?_); (case hz => exact Nat.le_of_ble_eq_true rfl))
  | ((with_reducible refine' r_newT ?hz ?_); (case hz => exact Nat.le_of_ble_eq_true rfl))
  | with_reducible refine r_for ?_
  | with_reducible refine r_lc ?_
  | with_reducible refine r_iR1 ?_
  | with_reducible refine r_iR2 ?_
  | with_reducible refine r_iL ?_
  | with_reducible refine r_iT ?_
  | with_reducible refine r_gname ?_
  | with_reducible refine r_gcons ?_
  | with_reducible refine r_gnil ?_
  | with_reducible refine r_yes ?_
  | with_reducible refine r_mkO ?_
  | with_reducible refine r_cont ?_
  | with_reducible refine r_drop ?_
  | with_reducible refine r_retN ?_
  | with_reducible refine r_ifC ?_
  | with_reducible refine r_ifI ?_
  | with_reducible refine r_if ?_
  | with_reducible refine r_un ?_
  | with_reducible refine r_neg ?_
  | with_reducible refine r_andV ?_
  | with_reducible refine r_orV ?_
  | with_reducible refine r_notV ?_
  | with_reducible refine r_tup ?_
  | with_reducible refine r_lst ?_
  | with_reducible refine r_bm ?_
  | with_reducible refine r_bm0 ?_
  | with_reducible refine r_sl ?_
  | with_reducible refine r_chain ?_
  | with_reducible refine r_listDn ?_
  | with_reducible refine r_listRg2 ?_
  | with_reducible refine r_revL ?_
  | with_reducible refine r_noPart ?_
  | with_reducible refine r_part ?_
  | with_reducible refine r_int ?_
  | ((with_reducible refine' r_sameS ?hs ?_); (case hs => exact rfl))
  | ((with_reducible refine' r_otherS ?hs ?_); (case hs => exact rfl))
  | with_reducible refine ite_t ?_
  | with_reducible refine ite_f ?_
  | with_reducible refine ite_nt ?_
  | with_reducible refine ite_nf ?_)
local macro_rules | `(tactic| walk_at "st") => `(tactic| repeat (walk_at "s1"))

section
variable {P : Program} {w : World} {K : PySem.W.Frag} {mg : Str → Option Value} {base : Heap}
/-! ### layouts hung in a drawn order -/
def GoodP (nx : Int → Int) (n : Nat) : Prop := ∀ j : Int, 1 ≤ j → j < n → (0 ≤ nx j ∧ nx j ≤ n) ∧ 0 ≤ Lay.cl nx n j
def vInt : V → Int
  | .int i => i
  | _ => 0
theorem map_vInt {ys : List V} (h : ∀ y ∈ ys, ∃ i, y = .int i) : (ys.map vInt).map V.int = ys := by
  rw [List.map_map]
  refine (List.map_congr_left fun y hy => ?_).trans (List.map_id _)
  obtain ⟨i, rfl⟩ := h y hy
  rfl
def jn (n : Nat) : List Int := (List.range (n - 1)).map fun (i : Nat) => (1 : Int) + i
theorem jn_rg (n : Nat) : rgV 1 n = (jn n).map V.int := by
  unfold rgV jn
  rw [show ((n : Int) - 1).toNat = n - 1 by omega, List.map_map]
  rfl
theorem jn_mem {n : Nat} {j : Int} : j ∈ jn n ↔ 1 ≤ j ∧ j < n := by
  unfold jn
  rw [List.mem_map]
  refine ⟨fun ⟨i, hi, e⟩ => by rw [List.mem_range] at hi; omega, fun ⟨a, b⟩ => ⟨(j - 1).toNat, List.mem_range.mpr (by omega), by omega⟩⟩
theorem jn_nodup (n : Nat) : (jn n).Nodup := Lay.nd_map (fun x _ y _ e => by omega) List.nodup_range
theorem parL_set {nx : Int → Int} {n : Nat} {j : Int} {a : Int} (h1 : 1 ≤ j) (h2 : j < n) : ((parL nx n).map V.int).set (j - 1).toNat (.int a) = (parL (fun i => if i = j then a else nx i) n).map V.int := by
  unfold parL
  rw [List.map_map, List.map_map]
  apply List.ext_getElem?
  intro i
  by_cases c : i < n - 1
  · by_cases e : (j - 1).toNat = i
    · subst e
      rw [List.getElem?_set_self (by simpa using c), List.getElem?_map, List.getElem?_range c]
      show some (V.int a) = some (V.int (if (((j - 1).toNat : Nat) : Int) + 1 = j then a else _))
      rw [if_pos (by omega)]
    · rw [List.getElem?_set_ne e, List.getElem?_map, List.getElem?_map, List.getElem?_range c]
      show some (V.int (nx ((i : Int) + 1))) = some (V.int (if (i : Int) + 1 = j then a else nx ((i : Int) + 1)))
      rw [if_neg (by omega)]
  · rw [List.getElem?_eq_none (by simp; omega), List.getElem?_eq_none (by simp; omega)]
/-- the joints that are hung, and the ends -/
structure Hung (nx : Int → Int) (n : Nat) (dl : List Int) : Prop where
  z : 0 ∈ dl ∧ (n : Int) ∈ dl
  rk : ∃ lv : Int → Nat, ∀ j ∈ dl, j = 0 ∨ j = n ∨ ((1 ≤ j ∧ j < n) ∧ nx j ∈ dl ∧ lv (nx j) < lv j)
theorem Hung.more {nx : Int → Int} {n : Nat} {dl : List Int} {j a : Int} (h : Hung nx n dl) (hj : 1 ≤ j ∧ j < n) (hn : j ∉ dl) (ha : a ∈ dl) : Hung (fun i => if i = j then a else nx i) n (dl ++ [j]) := by
  obtain ⟨lv, hl⟩ := h.rk
  refine ⟨⟨List.mem_append_left _ h.z.1, List.mem_append_left _ h.z.2⟩, fun i => if i = j then lv a + 1 else lv i, fun i hi => ?_⟩
  have aj : a ≠ j := fun e => hn (e ▸ ha)
  dsimp only
  rcases List.mem_append.mp hi with hi | hi
  · have ij : i ≠ j := fun e => hn (e ▸ hi)
    rcases hl i hi with h | h | ⟨h1, h2, h3⟩
    · exact .inl h
    · exact .inr (.inl h)
    · have nj : nx i ≠ j := fun e => hn (e ▸ h2)
      refine .inr (.inr ⟨h1, ?_, ?_⟩)
      · rw [if_neg ij]; exact List.mem_append_left _ h2
      · rw [if_neg ij, if_neg nj, if_neg ij]; exact h3
  · rw [List.mem_singleton.mp hi]
    refine .inr (.inr ⟨hj, ?_, ?_⟩)
    · rw [if_pos rfl]; exact List.mem_append_left _ ha
    · rw [if_pos rfl, if_neg aj, if_pos rfl]; omega
theorem Hung.ch {nx : Int → Int} {n : Nat} {dl : List Int} (h : Hung nx n dl) : ∀ j ∈ dl, 0 ≤ Lay.cl nx n j := by
  obtain ⟨lv, hl⟩ := h.rk
  have key : ∀ m : Nat, ∀ j ∈ dl, lv j < m → ∃ k, Lay.Ch nx n j k := by
    intro m
    induction m with
    | zero => intro j _ h; exact absurd h (Nat.not_lt_zero _)
    | succ m ih =>
      intro j hj hm
      rcases hl j hj with h | h | ⟨h1, h2, h3⟩
      · rw [h]; exact ⟨0, .z⟩
      · rw [h]; exact ⟨0, .n⟩
      · obtain ⟨k, hk⟩ := ih _ h2 (by omega)
        exact ⟨k + 1, .s h1.1 h1.2 hk⟩
  intro j hj
  obtain ⟨k, hk⟩ := key (lv j + 1) j hj (by omega)
  rw [Lay.cl_of hk]
  omega
theorem Hung.rng {nx : Int → Int} {n : Nat} {dl : List Int} (h : Hung nx n dl) {j : Int} (hj : j ∈ dl) : 0 ≤ j ∧ j ≤ n := by
  obtain ⟨lv, hl⟩ := h.rk
  rcases hl j hj with h | h | ⟨h1, _⟩ <;> omega
def spHung : Sp := fun vs H Q _ => ∃ (p : Addr) (n : Nat), vs = [.ref p, .int n] ∧ Src H p ∧ (1 ≤ n ∧ n ≤ 400) ∧ ∀ q H' nx, H q = none → Src H' p → But p H H' → H' q = some (.lst ((parL nx n).map V.int)) → GoodP nx n → Q (.ref q) H'
theorem sc__law_f_hung : FnScope ["source", "n", "parents", "done", "joint", "at"] ["source", "n"] (defScope s__law_f_hung) := ⟨rfl, rfl, rfl, by decide +kernel, rfl, by decide +kernel, by decide +kernel⟩
theorem ok_law_f_hung (T : Txt w K mg) : CalG P w K mg base 4 "_law_f_hung" ["source", "n"] spHung := by
  have c__law_pick := ok_law_pick (P := P) (base := base) T
  have c__law_shuffled := ok_law_shuffled (P := P) (base := base) T
  refine calG_of T.g__law_f_hung T.d__law_f_hung sc__law_f_hung (fun _ _ _ _ _ _ _ us hl => match us, hl with | [_, _], _ => rfl) (fun vs H Q E h => by obtain ⟨_, _, rfl, _⟩ := h; rfl) (fun cdv A outer s H vs Q E hr h => ?_)
  have nd := sc__law_f_hung.nd
  have hu := hu64 hr
  obtain ⟨p, n, rfl, sp, ⟨hn1, hn2⟩, k⟩ := h
  refine ⟨_, (pss_cons (ps_set (i := 2) nd rfl (Or.inl rfl) (pe_op op_timesB (pe_lst (pa_cons pe_int pa_nil)) (pe_op op_sub (pv 1) pe_int)))
        (pss_cons (ps_set (i := 3) nd rfl (Or.inl rfl) (pe_lst (pa_cons pe_int (pa_cons (pv 1) pa_nil))))
        (pss_cons (ps_for (passes_of rfl) rfl (piL (K := K) (pe_cal c__law_shuffled hr (by omega) (fun σ => L2N.passAt (L2N.takes_of rfl rfl rfl rfl) σ) (pa_cons (pv 0) (pa_cons (pe_listRg rfl (by rfl) T.f_list (prg_2 (by rfl) T.f_range pe_int (pv 1))) pa_nil)))) (pg_name (i := 4) nd rfl (Or.inl rfl)) (C8.pss_cut (ps_set (i := 5) nd rfl (Or.inl rfl) (pe_ifExp (pt_cmpR (sameK (K := K) hu) (pe_cal c__law_pick hr (by omega) (fun σ => L2N.passAt (L2N.takes_of rfl rfl rfl rfl) σ) (pa_cons (pv 0) (pa_cons pe_int pa_nil))) pe_int (nomark _)) (pe_ix (ixK (K := K)) (pv 3) (pe_cal c__law_pick hr (by omega) (fun σ => L2N.passAt (L2N.takes_of rfl rfl rfl rfl) σ) (pa_cons (pv 0) (pa_cons (pe_callB (lenK (K := K)) (by rfl) T.f_len boot_len (pa_cons (pv 3) pa_nil)) pa_nil))) (fun _ _ => rfl)) (pe_ix (ixK (K := K)) (pv 3) (pe_cal c__law_pick hr (by omega) (fun σ => L2N.passAt (L2N.takes_of rfl rfl rfl rfl) σ) (pa_cons (pv 0) (pa_cons pe_int pa_nil))) (fun _ _ => rfl))))
        (pss_cons (ps_asg (pv 5) (pg_sub (pv 2) (pe_op op_sub (pv 4) pe_int) set_list))
        (pss_one (ps_expr (peBM (K := K) (pe_bm PySem.F.plainAttrs_list PySem.F.slot_list_append PySem.F.type_list_append mt_append (pv 3) (pa_cons (pv 4) pa_nil))))))))
        (pss_one (ps_ret (pv 2)))))), ?_⟩
  walk_at "st"
  intro a1 H1 ha1 e1 h1
  walk_at "st"
  refine r_repL h1 (by omega) (by omega) (by simp; omega) (fun pa H2 hpa e2 h2 => ?_)
  have hpH : H pa = none := e1.none hpa
  walk_at "st"
  intro dn H3 hdn e3 h3
  have e12 := e1.trans e2
  have hdH : H dn = none := e12.none hdn
  walk_at "st"
  refine r_rg ⟨by omega, by omega, by omega, by omega, by omega⟩ (fun lr H4 hlr e4 h4 => ?_)
  rw [jn_rg] at h4
  have e14 := e12.trans (e3.trans e4)
  walk_at "st"
  refine ⟨p, lr, _, rfl, sp.ext e14, sqL h4, by rw [List.length_map]; unfold jn; rw [List.length_map, List.length_range]; omega, fun q H5 ys hq pm s5 h5 b5 => ?_⟩
  have npa : pa ≠ p := (src_ne sp hpH).symm
  have ndp : dn ≠ p := (src_ne sp hdH).symm
  have npd : pa ≠ dn := ne_of_none h2 hdn
  have nqp : q ≠ p := (src_ne (sp.ext e14) hq).symm
  have nqa : q ≠ pa := (ne_of_none ((e3.trans e4) _ _ h2) hq).symm
  have nqd : q ≠ dn := (ne_of_none (e4 _ _ h3) hq).symm
  have hys : ∀ y ∈ ys, ∃ i, y = .int i := fun y hy => by
    obtain ⟨i, _, e⟩ := List.mem_map.mp (pm.mem_iff.mp hy)
    exact ⟨i, e.symm⟩
  obtain ⟨zs, hzs⟩ : ∃ zs : List Int, zs.map V.int = ys := ⟨_, map_vInt hys⟩
  have pz : zs.Perm (jn n) := by
    have h := pm.map vInt
    rw [← hzs, List.map_map, List.map_map] at h
    have id1 : ∀ l : List Int, l.map (vInt ∘ V.int) = l := fun l => (List.map_congr_left fun _ _ => rfl).trans (List.map_id _)
    rwa [id1, id1] at h
  have zn : zs.Nodup := pz.nodup_iff.mpr (jn_nodup n)
  have zl : zs.length = n - 1 := by rw [pz.length_eq]; unfold jn; rw [List.length_map, List.length_range]
  subst hzs
  walk_at "st"
  refine r_li (sqL h5) ?_
  have b05 : But p H H5 := (ext_but e14).trans b5
  refine forW_list (fun i σ' H' => ∃ v1 v2 nx dl, σ' = [some (.ref p), some (.int n), some (.ref pa), some (.ref dn), v1, v2] ∧ Src H' p ∧ But p H H' ∧ H' q = some (.lst (zs.map V.int)) ∧ H' pa = some (.lst ((parL nx n).map V.int)) ∧ H' dn = some (.lst ((dl : List Int).map V.int)) ∧
    Hung nx n dl ∧ dl = [0, (n : Int)] ++ zs.take i ∧ ∀ j : Int, 1 ≤ j → j < n → 0 ≤ nx j ∧ nx j ≤ n)
    ⟨none, none, fun _ => 0, [0, (n : Int)], rfl, s5, b05, h5, ?_, b5 _ _ ndp (e4 _ _ h3), ⟨⟨by simp, by simp⟩, fun _ => 0, fun j hj => ?_⟩, by rw [List.take_zero, List.append_nil], fun j _ _ => by show (0 : Int) ≤ 0 ∧ (0 : Int) ≤ n; omega⟩ (fun i σ' H' hi ⟨_, _, _, _, _, _, _, h, _⟩ => sqL h) ?_ ?_
  · have h2' := b5 _ _ npa ((e3.trans e4) _ _ h2)
    rw [h2']
    congr 2
    unfold parL
    apply List.ext_getElem?
    intro i
    by_cases c : i < n - 1
    · rw [flat_at (n := n - 1) (by omega) c, List.getElem?_map, List.getElem?_map, List.getElem?_range c]
      rfl
    · rw [List.getElem?_eq_none (by rw [flat_len]; omega), List.getElem?_eq_none (by simp; omega)]
  · simp at hj
    rcases hj with h | h
    · exact .inl h
    · exact .inr (.inl h)
  · rintro i x σ' H6 hx ⟨v1, v2, nx, dl, rfl, s6, b6, h6q, h6a, h6d, hg, hdl, hr6⟩
    rw [List.getElem?_map] at hx
    obtain ⟨j, hj, rfl⟩ := Option.map_eq_some_iff.mp hx
    have hiz : i < zs.length := (List.getElem?_eq_some_iff.mp hj).1
    have hjr := jn_mem.mp (pz.mem_iff.mp (List.mem_of_getElem? hj))
    have hjd : j ∉ dl := fun z => by
      rw [hdl] at z
      rcases List.mem_append.mp z with z | z
      · simp at z
        omega
      · obtain ⟨i', e⟩ := List.mem_iff_getElem?.mp z
        rw [List.getElem?_take] at e
        split at e
        · rename_i c
          have a := (List.getElem?_eq_some_iff.mp e)
          have b := (List.getElem?_eq_some_iff.mp hj)
          exact (List.pairwise_iff_getElem.mp zn i' i a.1 b.1 c) (a.2.trans b.2.symm)
        · cases e
    have dlen : dl.length = i + 2 := by
      rw [hdl, List.length_append, List.length_take]
      show 2 + _ = _
      omega
    have pickd : ∀ r : Int, 0 ≤ r → r < dl.length → ∃ a, a ∈ dl ∧ atI (dl.map V.int) r = some (.int a) := fun r r0 r1 => by
      obtain ⟨m, rfl⟩ : ∃ m : Nat, r = m := ⟨r.toNat, by omega⟩
      have e : dl[m]? = some dl[m] := List.getElem?_eq_getElem (by omega)
      exact ⟨dl[m], List.getElem_mem _, atI_nat (by rw [List.getElem?_map, e]; rfl)⟩
    walk_at "st"
    refine r_cut (fun σ' H' => ∃ a : Int, a ∈ dl ∧ σ' = [some (.ref p), some (.int n), some (.ref pa), some (.ref dn), some (.int j), some (.int a)] ∧ Src H' p ∧ ∀ b, b ≠ p → H' b = H6 b) ?_ ?_
    · walk_at "st"
      refine ⟨p, 2, rfl, s6, by decide, by decide, fun r7 H7 r70 r71 s7 n7 => ?_⟩
      walk_at "st"
      refine ite_d (fun c => ?_) (fun c => ?_)
      · walk_at "st"
        refine r_lenL (sqL (stay n7 ndp h6d)) (n := dl.length) (by rw [List.length_map]) ?_
        walk_at "st"
        refine ⟨p, _, rfl, s7, by omega, by omega, fun r8 H8 r80 r81 s8 n8 => ?_⟩
        obtain ⟨a, ha, ea⟩ := pickd r8 r80 r81
        walk_at "st"
        refine r_atL (sqL (stay n8 ndp (stay n7 ndp h6d))) ea ?_
        exact ⟨a, ha, rfl, s8, fun b hb => (n8 b hb).trans (n7 b hb)⟩
      · walk_at "st"
        refine ⟨p, 2, rfl, s7, by decide, by decide, fun r8 H8 r80 r81 s8 n8 => ?_⟩
        obtain ⟨a, ha, ea⟩ := pickd r8 r80 (by omega)
        walk_at "st"
        refine r_atL (sqL (stay n8 ndp (stay n7 ndp h6d))) ea ?_
        exact ⟨a, ha, rfl, s8, fun b hb => (n8 b hb).trans (n7 b hb)⟩
    rintro σ' H7 ⟨a, ha, rfl, s7, n7⟩
    walk_at "st"
    refine r_setL (j := (j - 1).toNat) (stay n7 npa h6a) (by omega) (by unfold parL; rw [List.length_map, List.length_map, List.length_range]; omega) (fun H8 h8 n8 => ?_)
    rw [parL_set hjr.1 hjr.2] at h8
    walk_at "st"
    have h8d := stay n8 npd.symm (stay n7 ndp h6d)
    refine ⟨.inl ⟨rfl, _, sqL h8d⟩, ?_⟩
    walk_at "st"
    refine r_app h8d (by rw [List.length_map]; omega) (fun H9 h9 n9 => ?_)
    have ar := hg.rng ha
    refine ⟨_, _, fun i => if i = j then a else nx i, dl ++ [j], rfl, (s7.stay (.of n8) npa.symm).stay (.of n9) ndp.symm, ((b6.trans (.of n7)).mut hpH n8).mut hdH n9, stay n9 nqd (stay n8 nqa (stay n7 nqp h6q)), stay n9 npd h8, by rw [h9, List.map_append]; rfl, hg.more hjr hjd ha, ?_, fun i i1 i2 => ?_⟩
    · rw [hdl, List.append_assoc]
      congr 1
      rw [List.take_succ, hj]
      rfl
    · dsimp only
      by_cases c : i = j
      · rw [if_pos c]; exact ar
      · rw [if_neg c]; exact hr6 i i1 i2
  · rintro σ' H6 ⟨v1, v2, nx, dl, rfl, s6, b6, h6q, h6a, h6d, hg, hdl, hr6⟩
    walk_at "st"
    refine k pa H6 nx hpH s6 b6 h6a fun j j1 j2 => ⟨hr6 j j1 j2, hg.ch j ?_⟩
    rw [hdl, List.length_map, List.take_length]
    exact List.mem_append_right _ (pz.mem_iff.mpr (jn_mem.mpr ⟨j1, j2⟩))

end
end K27
set_option maxRecDepth 100000
set_option maxHeartbeats 4000000
namespace K27
open PySem PySem.Spec PyProof.Rows L2 L3
local macro_rules | `(tactic| walk_at "s1") => `(tactic| first
  | with_reducible refine r_seq ?_
  | with_reducible refine r_asgN ?_
  | with_reducible refine r_ret ?_
  | with_reducible refine r_next ?_
  | ((with_reducible refine' r_var ?hv ?_); (case hv => exact rfl))
  | with_reducible refine r_c ?_
  | with_reducible refine r_op ?_
  | with_reducible refine r_cons ?_
  | with_reducible refine r_nil ?_
  | with_reducible refine r_plusI ?_
  | with_reducible refine r_I0 ?_
  | with_reducible refine r_test ?_
  | with_reducible refine r_bl ?_
  | with_reducible refine r_ifS ?_
  | with_reducible refine r_cb ?_
  | with_reducible refine r_callS ?_
  | with_reducible refine r_and ?_
  | with_reducible refine r_or ?_
  | with_reducible refine r_not ?_
  | with_reducible refine r_B ?_
  | ((with_reducible refine' r_aug ?hv ?_); (case hv => exact rfl))
  | with_reducible refine r_augS ?_
  | with_reducible refine r_ipI ?_
  | with_reducible refine r_asg ?_
  | with_reducible refine r_sub ?_
  | with_reducible refine r_brk ?_
  | with_reducible refine r_isN1 ?_
  | with_reducible refine r_notN1 ?_
  | with_reducible refine r_intI ?_
  | with_reducible refine r_abs ?_
  | with_reducible refine r_min ?_
  | with_reducible refine r_max ?_
  | ((with_reducible refine' r_mod ?hz ?_); (case hz => omega))
  | ((with_reducible refine' r_pow ?hz ?_); (case hz => exact ⟨by decide, by decide, by decide⟩))
  | ((with_reducible refine' r_rg1 ?hz ?_); (case hz => omega))
  | ((with_reducible refine' r_rg2 ?hz ?_); (case hz => omega))
  | ((with_reducible refine' r_newL ?hz ?_); (case hz => exact Nat.le_of_ble_eq_true rfl))
  | ((with_reducible refine' r_newT ?hz ?_); (case hz => exact Nat.le_of_ble_eq_true rfl))
  | with_reducible refine r_for ?_
  | with_reducible refine r_lc ?_
  | with_reducible refine r_iR1 ?_
  | with_reducible refine r_iR2 ?_
  | with_reducible refine r_iL ?_
  | with_reducible refine r_iT ?_
  | with_reducible refine r_gname ?_
  | with_reducible refine r_gcons ?_
  | with_reducible refine r_gnil ?_
  | with_reducible refine r_yes ?_
  | with_reducible refine r_mkO ?_
  | with_reducible refine r_cont ?_
  | with_reducible refine r_drop ?_
  | with_reducible refine r_retN ?_
  | with_reducible refine r_ifC ?_
  | with_reducible refine r_ifI ?_
  | with_reducible refine r_if ?_
  | with_reducible refine r_un ?_
  | with_reducible refine r_neg ?_
  | with_reducible refine r_andV ?_
  | with_reducible refine r_orV ?_
  | with_reducible refine r_notV ?_
  | with_reducible refine r_tup ?_
  | with_reducible refine r_lst ?_
  | with_reducible refine r_bm ?_
  | with_reducible refine r_bm0 ?_
  | with_reducible refine r_sl ?_
  | with_reducible refine r_chain ?_
  | with_reducible refine r_listDn ?_
  | with_reducible refine r_listRg2 ?_
  | with_reducible refine r_revL ?_
  | with_reducible refine r_noPart ?_
  | with_reducible refine r_part ?_
  | with_reducible refine r_int ?_
  | ((with_reducible refine' r_sameS ?hs ?_); (case hs => exact rfl))
  | ((with_reducible refine' r_otherS ?hs ?_); (case hs => exact rfl))
  | with_reducible refine ite_t ?_
  | with_reducible refine ite_f ?_
  | with_reducible refine ite_nt ?_
  | with_reducible refine ite_nf ?_)
local macro_rules | `(tactic| walk_at "st") => `(tactic| repeat (walk_at "s1"))

section
variable {P : Program} {w : World} {K : PySem.W.Frag} {mg : Str → Option Value} {base : Heap}
/-! ### one thing wrong -/
theorem dps_set {K : PySem.W.Frag} {H : Hp} : ∀ {xs : List V} {ds : List PyData} {i : Nat} {x : V} {d : PyData}, DpAll K H xs ds → Dp K H x d → DpAll K H (xs.set i x) (ds.set i d)
  | _, _, i, x, d, .nil, h => by simp; exact .nil
  | _, _, 0, x, d, .cons _ h, g => .cons g h
  | _, _, i + 1, x, d, .cons h t, g => .cons h (dps_set t g)
theorem small_set {ns : List Int} {i : Nat} {d : PyData} (h : ns.length ≤ 1000) (hd : smallD 2 d) : smallD 3 (.list ((ns.map PyData.int).set i d)) := small_list (by rw [List.length_set, List.length_map]; omega) (fun e he => by
  rcases List.mem_or_eq_of_mem_set he with he | rfl
  · obtain ⟨z, _, rfl⟩ := List.mem_map.mp he
    exact small_int _ _
  · exact hd)
theorem ints_small {ns : List Int} (h : ns.length ≤ 1000) : smallD 3 (.list (ns.map PyData.int)) := small_mono (by decide) (small_ints 0 (by omega))
theorem ints_data {K : PySem.W.Frag} {H : Hp} {q : Addr} {ns : List Int} (h : H q = some (.lst (ns.map V.int))) : Data K H q (ns.map PyData.int) := ⟨_, sqL h, dps_ints ns⟩
def spSpoilt (K : PySem.W.Frag) : Sp := fun vs H Q _ => ∃ (p pp : Addr) (n : Nat) (ns : List Int), vs = [.ref p, .int n, .ref pp] ∧ Src H p ∧ (1 ≤ n ∧ n ≤ 400) ∧ SqL K H pp (ns.map V.int) ∧ ns.length = n - 1 ∧ ∀ q H' ds, Src H' p → But p H H' → (∀ G, But p H' G → Data K G q ds) → smallD 3 (.list ds) → Q (.ref q) H'
theorem sc__law_f_spoilt : FnScope ["source", "n", "parents", "found", "way", "at", "other"] ["source", "n", "parents"] (defScope s__law_f_spoilt) := ⟨rfl, rfl, rfl, by decide +kernel, rfl, by decide +kernel, by decide +kernel⟩
theorem ok_law_f_spoilt (T : Txt w K mg) : CalG P w K mg base 3 "_law_f_spoilt" ["source", "n", "parents"] (spSpoilt K) := by
  have c__law_pick := ok_law_pick (P := P) (base := base) T
  refine calG_of T.g__law_f_spoilt T.d__law_f_spoilt sc__law_f_spoilt (fun _ _ _ _ _ _ _ us hl => match us, hl with | [_, _, _], _ => rfl) (fun vs H Q E h => by obtain ⟨_, _, _, _, rfl, _⟩ := h; rfl) (fun cdv A outer s H vs Q E hr h => ?_)
  have nd := sc__law_f_spoilt.nd
  have hu := hu64 hr
  obtain ⟨p, pp, n, ns, rfl, sp, ⟨hn1, hn2⟩, hp, hl, k⟩ := h
  refine ⟨_, (pss_cons (ps_set (i := 3) nd rfl (Or.inl rfl) (pe_callTy (listK (K := K)) (by rfl) T.f_list (by decide +kernel) (pa_cons (pv 2) pa_nil)))
        (pss_cons (ps_set (i := 4) nd rfl (Or.inl rfl) (pe_cal c__law_pick hr (by omega) (fun σ => L2N.passAt (L2N.takes_of rfl rfl rfl rfl) σ) (pa_cons (pv 0) (pa_cons pe_int pa_nil))))
        (pss_cons (ps_if (PW.pt (pw_or (pt_cmpR (sameK (K := K) hu) (pv 4) pe_int (nomark _)) (pw_or1 (pt_cmpR op_lt (pv 1) pe_int (nomark _))))) (pss_one (ps_ret (pe_op (plusK (K := K)) (pv 3) (pe_lst (pa_cons (pe_cal c__law_pick hr (by omega) (fun σ => L2N.passAt (L2N.takes_of rfl rfl rfl rfl) σ) (pa_cons (pv 0) (pa_cons (pe_op (plusK (K := K)) (pv 1) pe_int) pa_nil))) pa_nil))))) pss_nil)
        (pss_cons (ps_set (i := 5) nd rfl (Or.inl rfl) (pe_cal c__law_pick hr (by omega) (fun σ => L2N.passAt (L2N.takes_of rfl rfl rfl rfl) σ) (pa_cons (pv 0) (pa_cons (pe_op op_sub (pv 1) pe_int) pa_nil))))
        (pss_cons (ps_if (pt_cmpR (sameK (K := K) hu) (pv 4) pe_int (nomark _)) (pss_one (ps_ret (pe_op (plusK (K := K)) (pe_slice (slK (K := K)) (pv 3) po_none (po_some (pv 5))) (pe_slice (slK (K := K)) (pv 3) (po_some (pe_op (plusK (K := K)) (pv 5) pe_int)) po_none)))) pss_nil)
        (pss_cons (ps_if (pt_cmpR (sameK (K := K) hu) (pv 4) pe_int (nomark _)) (pss_one (ps_asg (pe_ix (ixK (K := K)) (pe_lst (pa_cons (pe_op (plusK (K := K)) (pv 1) pe_int) (pa_cons (pe_op (plusK (K := K)) (pe_op (plusK (K := K)) (pv 1) pe_int) (pe_cal c__law_pick hr (by omega) (fun σ => L2N.passAt (L2N.takes_of rfl rfl rfl rfl) σ) (pa_cons (pv 0) (pa_cons (pe_op op_pow pe_int pe_int) pa_nil)))) (pa_cons (pe_un un_neg pe_int) (pa_cons (pe_op op_sub (pe_un un_neg pe_int) (pe_cal c__law_pick hr (by omega) (fun σ => L2N.passAt (L2N.takes_of rfl rfl rfl rfl) σ) (pa_cons (pv 0) (pa_cons pe_int pa_nil)))) pa_nil))))) (pe_cal c__law_pick hr (by omega) (fun σ => L2N.passAt (L2N.takes_of rfl rfl rfl rfl) σ) (pa_cons (pv 0) (pa_cons pe_int pa_nil))) (fun _ _ => rfl)) (pg_sub (pv 3) (pv 5) set_list))) (pss_one (ps_if (pt_cmpR (sameK (K := K) hu) (pv 4) pe_int (nomark _)) (pss_one (ps_asg (pe_ix (ixK (K := K)) (pe_lst (pa_cons pe_bl (pa_cons pe_bl (pa_cons pe_non (pa_cons pe_str (pa_cons (pe_lst (pa_cons pe_int pa_nil)) pa_nil)))))) (pe_cal c__law_pick hr (by omega) (fun σ => L2N.passAt (L2N.takes_of rfl rfl rfl rfl) σ) (pa_cons (pv 0) (pa_cons pe_int pa_nil))) (fun _ _ => rfl)) (pg_sub (pv 3) (pv 5) set_list))) (pss_one (ps_if (pt_cmpR (sameK (K := K) hu) (pv 4) pe_int (nomark _)) (pss_one (ps_asg (pe_op (plusK (K := K)) (pv 5) pe_int) (pg_sub (pv 3) (pv 5) set_list))) (pss_cons (ps_set (i := 6) nd rfl (Or.inl rfl) (pe_cal c__law_pick hr (by omega) (fun σ => L2N.passAt (L2N.takes_of rfl rfl rfl rfl) σ) (pa_cons (pv 0) (pa_cons (pe_op op_sub (pv 1) pe_int) pa_nil))))
        (pss_cons (ps_asg (pe_op (plusK (K := K)) (pv 6) pe_int) (pg_sub (pv 3) (pv 5) set_list))
        (pss_one (ps_asg (pe_op (plusK (K := K)) (pv 5) pe_int) (pg_sub (pv 3) (pv 6) set_list))))))))))
        (pss_one (ps_ret (pv 3))))))))), ?_⟩
  walk_at "st"
  refine r_listL hp (fun l H1 hl1 e1 h1 => ?_)
  have s1 := sp.ext e1
  have nlp : l ≠ p := (src_ne sp hl1).symm
  walk_at "st"
  refine ⟨p, 6, rfl, s1, by decide, by decide, fun w2 H2 w0 w1 s2 n2 => ?_⟩
  have h2 := stay n2 nlp h1
  have b2 : But p H H2 := (ext_but e1).trans (.of n2)
  walk_at "st"
  refine ite_d (fun c0 => ?_) (fun c0 => ?_)
  · walk_at "st"
    refine ⟨p, _, rfl, s2, by omega, by omega, fun r3 H3 r30 r31 s3 n3 => ?_⟩
    walk_at "st"
    intro q4 H4 hq4 e4 h4
    walk_at "st"
    refine r_catL (e4 _ _ (stay n3 nlp h2)) h4 (by rw [List.length_map]; show _ + 1 ≤ _; omega) (fun q5 H5 hq5 e5 h5 => ?_)
    have e : ns.map V.int ++ [V.int r3] = (ns ++ [r3]).map V.int := by rw [List.map_append]; rfl
    rw [e] at h5
    exact k q5 H5 _ ((s3.ext e4).ext e5) ((b2.trans (.of n3)).ext (e4.trans e5)) (fun G hG => ints_data (hG _ _ ((src_ne (s3.ext e4) hq5).symm) h5)) (ints_small (by rw [List.length_append]; show _ + 1 ≤ _; omega))
  walk_at "st"
  refine ite_d (fun c1 => ?_) (fun c1 => ?_)
  · walk_at "st"
    refine ⟨p, _, rfl, s2, by omega, by omega, fun r3 H3 r30 r31 s3 n3 => ?_⟩
    walk_at "st"
    intro q4 H4 hq4 e4 h4
    walk_at "st"
    refine r_catL (e4 _ _ (stay n3 nlp h2)) h4 (by rw [List.length_map]; show _ + 1 ≤ _; omega) (fun q5 H5 hq5 e5 h5 => ?_)
    have e : ns.map V.int ++ [V.int r3] = (ns ++ [r3]).map V.int := by rw [List.map_append]; rfl
    rw [e] at h5
    exact k q5 H5 _ ((s3.ext e4).ext e5) ((b2.trans (.of n3)).ext (e4.trans e5)) (fun G hG => ints_data (hG _ _ ((src_ne (s3.ext e4) hq5).symm) h5)) (ints_small (by rw [List.length_append]; show _ + 1 ≤ _; omega))
  walk_at "st"
  refine ⟨p, _, rfl, s2, by omega, by omega, fun at_ H3 at0 at1 s3 n3 => ?_⟩
  have h3 := stay n3 nlp h2
  have b3 : But p H H3 := b2.trans (.of n3)
  obtain ⟨a, rfl⟩ : ∃ a : Nat, at_ = a := ⟨at_.toNat, by omega⟩
  have ha : a < ns.length := by omega
  walk_at "st"
  refine ite_d (fun c2 => ?_) (fun c2 => ?_)
  · walk_at "st"
    refine r_slL (sqL h3) (fun l4 H4 hl4 e4 h4 => ?_)
    rw [cut_to] at h4
    walk_at "st"
    refine r_slL (sqL (e4 _ _ h3)) (fun l5 H5 hl5 e5 h5 => ?_)
    rw [show (a : Int) + 1 = ((a + 1 : Nat) : Int) by omega, cut_from] at h5
    walk_at "st"
    refine r_catL (e5 _ _ h4) h5 (by rw [List.length_take, List.length_drop, List.length_map]; omega) (fun q6 H6 hq6 e6 h6 => ?_)
    have e : (ns.map V.int).take a ++ (ns.map V.int).drop (a + 1) = (ns.take a ++ ns.drop (a + 1)).map V.int := by rw [List.map_append, List.map_take, List.map_drop]
    rw [e] at h6
    have e36 := e4.trans (e5.trans e6)
    exact k q6 H6 _ (s3.ext e36) (b3.ext e36) (fun G hG => ints_data (hG _ _ ((src_ne (s3.ext (e4.trans e5)) hq6).symm) h6)) (ints_small (by rw [List.length_append, List.length_take, List.length_drop]; omega))
  have fin : ∀ {H' H2' : Hp} {x : V} {d : PyData}, Src H' p → But p H H' → H' l = some (.lst (ns.map V.int)) → (∀ G, But p H2' G → Dp K G x d) → smallD 2 d → H2' l = some (.lst ((ns.map V.int).set a x)) → (∀ b, b ≠ l → H2' b = H' b) → Q (.ref l) H2' := fun {H' H2' x d} s' b' h' hx hd h2' n2' => by
    refine k l H2' _ (s'.stay (.of n2') nlp.symm) (b'.mut hl1 n2') (fun G hG => ⟨_, sqL (hG _ _ nlp h2'), dps_set (dps_ints ns) (hx G hG)⟩) (small_set (by omega) hd)
  have xl : (ns.map V.int).length = ns.length := List.length_map _
  walk_at "st"
  refine ite_d (fun c3 => ?_) (fun c3 => ?_)
  · walk_at "st"
    refine ⟨p, _, rfl, s3, by decide, by decide, fun r4 H4 r40 r41 s4 n4 => ?_⟩
    walk_at "st"
    refine ⟨p, 99, rfl, s4, by decide, by decide, fun r5 H5 r50 r51 s5 n5 => ?_⟩
    walk_at "st"
    intro q6 H6 hq6 e6 h6
    walk_at "st"
    refine ⟨p, 4, rfl, s5.ext e6, by decide, by decide, fun r7 H7 r70 r71 s7 n7 => ?_⟩
    have nqp : q6 ≠ p := (src_ne s5 hq6).symm
    have h67 := stay n7 nqp h6
    obtain ⟨j, rfl⟩ : ∃ j : Nat, r7 = j := ⟨r7.toNat, by omega⟩
    have hj : j < 4 := by omega
    have b7 : But p H H7 := (((b3.trans (.of n4)).trans (.of n5)).ext e6).trans (.of n7)
    have hl7 := stay n7 nlp (e6 _ _ (stay n5 nlp (stay n4 nlp h3)))
    walk_at "st"
    rcases j with _ | _ | _ | _ | j
    · refine r_atL (sqL h67) (atI_nat (j := 0) rfl) ?_
      walk_at "st"
      refine r_setL (j := a) hl7 rfl (by omega) (fun H8 h8 n8 => ?_)
      walk_at "st"
      exact fin s7 b7 hl7 (fun _ _ => (.int _)) (small_int _ _) h8 n8
    · refine r_atL (sqL h67) (atI_nat (j := 1) rfl) ?_
      walk_at "st"
      refine r_setL (j := a) hl7 rfl (by omega) (fun H8 h8 n8 => ?_)
      walk_at "st"
      exact fin s7 b7 hl7 (fun _ _ => (.int _)) (small_int _ _) h8 n8
    · refine r_atL (sqL h67) (atI_nat (j := 2) rfl) ?_
      walk_at "st"
      refine r_setL (j := a) hl7 rfl (by omega) (fun H8 h8 n8 => ?_)
      walk_at "st"
      exact fin s7 b7 hl7 (fun _ _ => (.int _)) (small_int _ _) h8 n8
    · refine r_atL (sqL h67) (atI_nat (j := 3) rfl) ?_
      walk_at "st"
      refine r_setL (j := a) hl7 rfl (by omega) (fun H8 h8 n8 => ?_)
      walk_at "st"
      exact fin s7 b7 hl7 (fun _ _ => (.int _)) (small_int _ _) h8 n8
    · omega
  walk_at "st"
  refine ite_d (fun c4 => ?_) (fun c4 => ?_)
  · walk_at "st"
    intro z4 H4 hz4 e4 h4
    walk_at "st"
    intro q6 H6 hq6 e6 h6
    have e36 := e4.trans e6
    walk_at "st"
    refine ⟨p, 5, rfl, s3.ext e36, by decide, by decide, fun r7 H7 r70 r71 s7 n7 => ?_⟩
    have nqp : q6 ≠ p := (src_ne (s3.ext e4) hq6).symm
    have nzp : z4 ≠ p := (src_ne s3 hz4).symm
    have nzl : z4 ≠ l := (ne_of_none h3 hz4).symm
    have h67 := stay n7 nqp h6
    obtain ⟨j, rfl⟩ : ∃ j : Nat, r7 = j := ⟨r7.toNat, by omega⟩
    have hj : j < 5 := by omega
    have b7 : But p H H7 := (b3.ext e36).trans (.of n7)
    have hl7 := stay n7 nlp (e36 _ _ h3)
    have hz7 := stay n7 nzp (e6 _ _ h4)
    walk_at "st"
    rcases j with _ | _ | _ | _ | _ | j
    · refine r_atL (sqL h67) (atI_nat (j := 0) rfl) ?_
      walk_at "st"
      refine r_setL (j := a) hl7 rfl (by omega) (fun H8 h8 n8 => ?_)
      walk_at "st"
      exact fin s7 b7 hl7 (fun _ _ => (.bl _)) (small_bool _ _) h8 n8
    · refine r_atL (sqL h67) (atI_nat (j := 1) rfl) ?_
      walk_at "st"
      refine r_setL (j := a) hl7 rfl (by omega) (fun H8 h8 n8 => ?_)
      walk_at "st"
      exact fin s7 b7 hl7 (fun _ _ => (.bl _)) (small_bool _ _) h8 n8
    · refine r_atL (sqL h67) (atI_nat (j := 2) rfl) ?_
      walk_at "st"
      refine r_setL (j := a) hl7 rfl (by omega) (fun H8 h8 n8 => ?_)
      walk_at "st"
      exact fin s7 b7 hl7 (fun _ _ => .non) (small_none _) h8 n8
    · refine r_atL (sqL h67) (atI_nat (j := 3) rfl) ?_
      walk_at "st"
      refine r_setL (j := a) hl7 rfl (by omega) (fun H8 h8 n8 => ?_)
      walk_at "st"
      exact fin s7 b7 hl7 (fun _ _ => (.str _)) (small_str _ _) h8 n8
    · refine r_atL (sqL h67) (atI_nat (j := 4) rfl) ?_
      walk_at "st"
      refine r_setL (j := a) hl7 rfl (by omega) (fun H8 h8 n8 => ?_)
      walk_at "st"
      exact fin s7 b7 hl7 (d := .list ([0].map PyData.int)) (fun G hG => .lst (sqL (hG _ _ nzp (stay n8 nzl hz7))) (dps_ints [0])) (small_ints 0 (by decide)) h8 n8
    · omega
  walk_at "st"
  refine ite_d (fun c5 => ?_) (fun c5 => ?_)
  · walk_at "st"
    refine r_setL (j := a) h3 rfl (by omega) (fun H8 h8 n8 => ?_)
    walk_at "st"
    exact fin s3 b3 h3 (fun _ _ => (.int _)) (small_int _ _) h8 n8
  · walk_at "st"
    refine ⟨p, _, rfl, s3, by omega, by omega, fun r4 H4 r40 r41 s4 n4 => ?_⟩
    obtain ⟨o, rfl⟩ : ∃ o : Nat, r4 = o := ⟨r4.toNat, by omega⟩
    have h4 := stay n4 nlp h3
    walk_at "st"
    refine r_setL (j := a) h4 rfl (by omega) (fun H5 h5 n5 => ?_)
    walk_at "st"
    refine r_setL (j := o) h5 rfl (by rw [List.length_set]; omega) (fun H6 h6 n6 => ?_)
    walk_at "st"
    have e : ((ns.map V.int).set a (.int ((o : Int) + 1))).set o (.int ((a : Int) + 1)) = ((ns.set a ((o : Int) + 1)).set o ((a : Int) + 1)).map V.int := by rw [List.map_set, List.map_set]
    rw [e] at h6
    exact k l H6 _ ((s4.stay (.of n5) nlp.symm).stay (.of n6) nlp.symm) (((b3.trans (.of n4)).mut hl1 n5).mut hl1 n6) (fun G hG => ints_data (hG _ _ nlp h6)) (ints_small (by rw [List.length_set, List.length_set]; omega))

end
end K27
set_option maxRecDepth 100000
set_option maxHeartbeats 4000000
namespace K27
open PySem PySem.Spec PyProof.Rows L2 L3
local macro_rules | `(tactic| walk_at "s1") => `(tactic| first
  | with_reducible refine r_seq ?_
  | with_reducible refine r_asgN ?_
  | with_reducible refine r_ret ?_
  | with_reducible refine r_next ?_
  | ((with_reducible refine' r_var ?hv ?_); (case hv => exact rfl))
  | with_reducible refine r_c ?_
  | with_reducible refine r_op ?_
  | with_reducible refine r_cons ?_
  | with_reducible refine r_nil ?_
  | with_reducible refine r_plusI ?_
  | with_reducible refine r_I0 ?_
  | with_reducible refine r_test ?_
  | with_reducible refine r_bl ?_
  | with_reducible refine r_ifS ?_
  | with_reducible refine r_cb ?_
  | with_reducible refine r_callS ?_
  | with_reducible refine r_and ?_
  | with_reducible refine r_or ?_
  | with_reducible refine r_not ?_
  | with_reducible refine r_B ?_
  | ((with_reducible refine' r_aug ?hv ?_); (case hv => exact rfl))
  | with_reducible refine r_augS ?_
  | with_reducible refine r_ipI ?_
  | with_reducible refine r_asg ?_
  | with_reducible refine r_sub ?_
  | with_reducible refine r_brk ?_
  | with_reducible refine r_isN1 ?_
  | with_reducible refine r_notN1 ?_
  | with_reducible refine r_intI ?_
  | with_reducible refine r_abs ?_
  | with_reducible refine r_min ?_
  | with_reducible refine r_max ?_
  | ((with_reducible refine' r_mod ?hz ?_); (case hz => omega))
  | ((with_reducible refine' r_pow ?hz ?_); (case hz => exact ⟨by decide, by decide, by decide⟩))
  | ((with_reducible refine' r_rg1 ?hz ?_); (case hz => omega))
  | ((with_reducible refine' r_rg2 ?hz ?_); (case hz => omega))
  | ((with_reducible refine' r_newL ?hz ?_); (case hz => exact Nat.le_of_ble_eq_true rfl))
  | ((with_reducible refine' r_newT ?hz ?_); (case hz => exact Nat.le_of_ble_eq_true rfl))
  | with_reducible refine r_for ?_
  | with_reducible refine r_lc ?_
  | with_reducible refine r_iR1 ?_
  | with_reducible refine r_iR2 ?_
  | with_reducible refine r_iL ?_
  | with_reducible refine r_iT ?_
  | with_reducible refine r_gname ?_
  | with_reducible refine r_gcons ?_
  | with_reducible refine r_gnil ?_
  | with_reducible refine r_yes ?_
  | with_reducible refine r_mkO ?_
  | with_reducible refine r_cont ?_
  | with_reducible refine r_drop ?_
  | with_reducible refine r_retN ?_
  | with_reducible refine r_ifC ?_
  | with_reducible refine r_ifI ?_
  | with_reducible refine r_if ?_
  | with_reducible refine r_un ?_
  | with_reducible refine r_neg ?_
  | with_reducible refine r_andV ?_
  | with_reducible refine r_orV ?_
  | with_reducible refine r_notV ?_
  | with_reducible refine r_tup ?_
  | with_reducible refine r_lst ?_
  | with_reducible refine r_bm ?_
  | with_reducible refine r_bm0 ?_
  | with_reducible refine r_sl ?_
  | with_reducible refine r_chain ?_
  | with_reducible refine r_listDn ?_
  | with_reducible refine r_listRg2 ?_
  | with_reducible refine r_revL ?_
  | with_reducible refine r_noPart ?_
  | with_reducible refine r_part ?_
  | with_reducible refine r_int ?_
  | ((with_reducible refine' r_sameS ?hs ?_); (case hs => exact rfl))
  | ((with_reducible refine' r_otherS ?hs ?_); (case hs => exact rfl))
  | with_reducible refine ite_t ?_
  | with_reducible refine ite_f ?_
  | with_reducible refine ite_nt ?_
  | with_reducible refine ite_nf ?_)
local macro_rules | `(tactic| walk_at "st") => `(tactic| repeat (walk_at "s1"))

section
variable {P : Program} {w : World} {K : PySem.W.Frag} {mg : Str → Option Value} {base : Heap}
/-! ### facts of the law -/
theorem nxd_ints {nx : Int → Int} {n : Nat} (h : ∀ j : Int, 1 ≤ j → j < n → 0 ≤ nx j ∧ nx j ≤ n) : ∀ j : Int, 1 ≤ j → j < n → nxd n ((parL nx n).map PyData.int) j = nx j := fun j h1 h2 => by
  obtain ⟨k, rfl⟩ : ∃ k : Nat, j = k + 1 := ⟨(j - 1).toNat, by omega⟩
  have r := h _ h1 h2
  refine nxd_some (d := .int (nx ((k : Int) + 1))) ?_ ?_
  · unfold parL
    rw [List.getElem?_map, List.getElem?_map, List.getElem?_range (by omega)]
    rfl
  · have e0 : ent n (.int (nx ((k : Int) + 1))) = if 0 ≤ nx ((k : Int) + 1) ∧ nx ((k : Int) + 1) ≤ n then some (nx ((k : Int) + 1)) else none := rfl
    rw [e0, if_pos r]
theorem load_congr {nx nx' : Int → Int} {n : Nat} (h : ∀ j : Int, 1 ≤ j → j < n → nx' j = nx j) (p : Int) : Lay.load nx' n p = Lay.load nx n p := by
  unfold Lay.load
  refine Lay.sI_congr fun j h1 h2 => ?_
  unfold Lay.cov
  rw [h j h1 (by omega)]
theorem parL_len (nx : Int → Int) (n : Nat) : (parL nx n).length = n - 1 := by unfold parL; rw [List.length_map, List.length_range]
theorem wp_good {nx : Int → Int} {n : Nat} (g : GoodP nx n) : WP n ((parL nx n).map PyData.int) .non := by
  refine .inr (.inr ⟨by rw [List.length_map, parL_len], fun j h1 h2 => ?_, rfl⟩)
  rw [Lay.cl_congr (nxd_ints fun j h1 h2 => (g j h1 h2).1)]
  exact (g j (by omega) (by omega)).2
theorem built_good {par : Int → Int} {lev : Int → Nat} {n d r : Nat} (B : Lay.Built par lev n d r) (h : n ≤ Del.D d r) : GoodP par n := by
  have stp := B.step h
  have key : ∀ m : Nat, ∀ j : Int, 0 ≤ j → j ≤ n → lev j < m → ∃ k, Lay.Ch par n j k := by
    intro m
    induction m with
    | zero => intro j _ _ h; exact absurd h (Nat.not_lt_zero _)
    | succ m ih =>
      intro j j0 j1 hm
      by_cases c0 : j = 0
      · rw [c0]; exact ⟨0, .z⟩
      by_cases c1 : j = n
      · rw [c1]; exact ⟨0, .n⟩
      obtain ⟨s1, s2, s3, s4, s5⟩ := stp j (by omega) (by omega)
      obtain ⟨k, hk⟩ := ih (par j) s4 s5 (by omega)
      exact ⟨k + 1, .s (by omega) (by omega) hk⟩
  intro j h1 h2
  obtain ⟨s1, s2, s3, s4, s5⟩ := stp j h1 h2
  obtain ⟨k, hk⟩ := key (lev j + 1) j (by omega) (by omega) (by omega)
  exact ⟨⟨s4, s5⟩, by rw [Lay.cl_of hk]; omega⟩
theorem max_ex : ∀ (l : List Int), 0 < l.length → ∃ m, m ∈ l ∧ ∀ y ∈ l, y ≤ m
  | [], h => absurd h (Nat.not_lt_zero _)
  | [x], _ => ⟨x, List.mem_cons_self, fun y hy => by rw [List.mem_singleton.mp hy]; exact Int.le_refl _⟩
  | x :: z :: l, _ => by
    obtain ⟨m, h1, h2⟩ := max_ex (z :: l) (by simp)
    by_cases c : x ≤ m
    · exact ⟨m, List.mem_cons_of_mem _ h1, fun y hy => by
        rcases List.mem_cons.mp hy with rfl | hy
        · exact c
        · exact h2 y hy⟩
    · exact ⟨x, List.mem_cons_self, fun y hy => by
        rcases List.mem_cons.mp hy with rfl | hy
        · exact Int.le_refl _
        · have := h2 y hy; omega⟩
/-- a judgement that lets tells a layout of so many parts at most -/
theorem judge_most {n : Nat} {ds : List PyData} {d r : Nat} (hn : 1 ≤ n) (h : Judge n ds d r .ok) : n ≤ Del.D d r := by
  rcases h with ⟨i, _, h⟩ | ⟨hw, h⟩
  · cases h
  obtain ⟨hl, hall⟩ := hw.non
  rcases h with ⟨j, _, _, _, h⟩ | ⟨h1, h⟩
  · cases h
  rcases h with ⟨q, _, _, _, h⟩ | ⟨h2, _⟩
  · cases h
  refine Lay.most (Lay.tree_of (nx := nxd n ds) (n := n) (d := d) fun j j1 j2 => ?_) fun p hp => h2 p hp
  have a := hall j.toNat (by omega) (by omega)
  have b := h1 j.toNat (by omega) (by omega)
  rw [Int.toNat_of_nonneg (by omega)] at a b
  exact ⟨a, b⟩
theorem judge_ok {nx : Int → Int} {n : Nat} {d r : Int} (g : GoodP nx n) (hd : ∀ j : Nat, 1 ≤ j → j < n → Lay.cl nx n j ≤ d) (hr : ∀ q : Nat, q < n → Lay.load nx n q ≤ r) : Judge n ((parL nx n).map PyData.int) d r .ok := by
  have hx := nxd_ints fun j h1 h2 => (g j h1 h2).1
  refine .inr ⟨wp_good g, .inr ⟨fun j h1 h2 => ?_, .inr ⟨fun q hq => ?_, rfl⟩⟩⟩
  · rw [Lay.cl_congr hx]; exact hd j h1 h2
  · rw [load_congr hx]; exact hr q hq
theorem far_load (p : Nat) : ∀ m : Nat, Lay.sI (Lay.cov (fun _ => 0) p) 1 m = if (m : Int) ≤ p then 0 else (m : Int) - p
  | 0 => by show (0 : Int) = _; rw [if_pos (by omega)]
  | m + 1 => by
    show Lay.sI _ 1 m + Lay.cov (fun _ => 0) p (1 + (m : Int)) = _
    have hc : Lay.cov (fun _ => 0) p (1 + (m : Int)) = if (p : Int) < 1 + m then 1 else 0 := by
      show (if ((0 : Int) ≤ p ∧ (p : Int) < 1 + m) ∨ (1 + (m : Int) ≤ p ∧ (p : Int) < 0) then 1 else 0) = _
      by_cases c : (p : Int) < 1 + m
      · rw [if_pos c, if_pos (.inl ⟨by omega, c⟩)]
      · rw [if_neg c, if_neg (by omega)]
    rw [far_load p m, hc]
    by_cases c : ((m + 1 : Nat) : Int) ≤ p
    · rw [if_pos (show (m : Int) ≤ p by omega), if_neg (by omega), if_pos c]; rfl
    · rw [if_pos (show (p : Int) < 1 + m by omega), if_neg c]
      split <;> omega

theorem least_ex (n d : Nat) (hd : 1 ≤ d) : ∃ r, Del.Least n d r := by
  have key : ∀ m r, r + m = n → (∀ r', r' < r → Del.D d r' < n) → ∃ r, Del.Least n d r := by
    intro m
    induction m with
    | zero => intro r h hr; exact ⟨r, by have := Del.D_ge d r hd; omega, hr⟩
    | succ m ih =>
      intro r h hr
      by_cases c : n ≤ Del.D d r
      · exact ⟨r, c, hr⟩
      · refine ih (r + 1) (by omega) fun r' h' => ?_
        by_cases e : r' = r
        · subst e; omega
        · exact hr r' (by omega)
  exact key n 0 (by omega) (fun r' h => absurd h (Nat.not_lt_zero _))

theorem par_ints {nx : Int → Int} {n : Nat} (g : ∀ j : Int, 1 ≤ j → j < n → 0 ≤ nx j ∧ nx j ≤ n) : Par nx n ((parL nx n).map V.int) := fun j h1 h2 => by
  refine ⟨?_, g j (by omega) (by omega)⟩
  unfold parL
  rw [List.getElem?_map, List.getElem?_map, List.getElem?_range (by omega)]
  show some (V.int (nx (((j - 1 : Nat) : Int) + 1))) = _
  rw [show ((j - 1 : Nat) : Int) + 1 = (j : Int) by omega]
def ItemR (K : PySem.W.Frag) (H : Hp) (x : V) : Prop := ∃ (a : Addr) (d r : Int) (q : Addr) (ds : List PyData), x = .ref a ∧ H a = some (.lst [.int d, .int r, .ref q]) ∧ Data K H q ds ∧ smallD 3 (.list ds)
theorem ItemR.ext {K : PySem.W.Frag} {H H' : Hp} {x : V} (h : ItemR K H x) (e : Ext H H') : ItemR K H' x := by
  obtain ⟨a, d, r, q, ds, rfl, h1, h2, h3⟩ := h
  exact ⟨a, d, r, q, ds, rfl, e _ _ h1, h2.ext e, h3⟩
theorem shN : SeqAt.shaped (.tuple [.str "told", .none]) = true := by
  simp [SeqAt.shaped, PyData.canLay0, PyData.canLayAll0, PyData.depth, PyData.depthAll]
  decide +kernel
theorem shB (s : Str) (i : Int) (h : s = "parent" ∨ s = "chain" ∨ s = "load") : SeqAt.shaped (.tuple [.str "told", .tuple [.str s, .int i]]) = true := by
  simp [SeqAt.shaped, PyData.canLay0, PyData.canLayAll0, PyData.depth, PyData.depthAll]
  rcases h with rfl | rfl | rfl <;> decide +kernel
theorem eqvT : PyData.eqv (.tuple [.str "told", .none]) (.tuple [.str "told", .none]) = true := by simp [PyData.eqv, PyData.eqvAll]
theorem eqvF (s : Str) (i : Int) : PyData.eqv (.tuple [.str "told", .tuple [.str s, .int i]]) (.tuple [.str "told", .none]) = false := by simp [PyData.eqv, PyData.eqvAll]
theorem judge_bad {n : Nat} {ds : List PyData} {d r : Int} {s : Str} {i : Int} (h : Judge n ds d r (.bad s i)) : s = "parent" ∨ s = "chain" ∨ s = "load" := by
  rcases h with ⟨_, _, h⟩ | ⟨_, ⟨_, _, _, _, h⟩ | ⟨_, ⟨_, _, _, _, h⟩ | ⟨_, h⟩⟩⟩
  · injection h with h _; exact .inl h
  · injection h with h _; exact .inr (.inl h)
  · injection h with h _; exact .inr (.inr h)
  · cases h
theorem items7 {K : PySem.W.Frag} {H : Hp} {x1 x2 x3 x4 x5 x6 x7 : V} (h1 : ItemR K H x1) (h2 : ItemR K H x2) (h3 : ItemR K H x3) (h4 : ItemR K H x4) (h5 : ItemR K H x5) (h6 : ItemR K H x6) (h7 : ItemR K H x7) : ∀ x ∈ [x1, x2, x3, x4, x5, x6, x7], ItemR K H x := fun x hx => by
  simp only [List.mem_cons, List.not_mem_nil, or_false] at hx
  rcases hx with rfl | rfl | rfl | rfl | rfl | rfl | rfl
  · exact h1
  · exact h2
  · exact h3
  · exact h4
  · exact h5
  · exact h6
  · exact h7
def bothD (c x : Str) : PyData := .tuple [.str c, .str x]
theorem both_small (c x : Str) : smallD 3 (bothD c x) := small_tup (by show 2 ≤ 100000; decide) (fun e he => by
  simp at he
  rcases he with rfl | rfl
  · exact small_str _ _
  · exact small_str _ _)
theorem both_dp {K : PySem.W.Frag} {q : Addr} {H : Hp} {c x : Str} (h : H q = some (.tup [.str c, .str x])) : Dp K H (.ref q) (bothD c x) := .tup (sqT h) (.cons (.str _) (.cons (.str _) .nil))
/-- all hang on the front -/
theorem far_good : GoodP (fun _ => 0) 400 := fun j h1 h2 => ⟨by show (0 : Int) ≤ 0 ∧ (0 : Int) ≤ _; omega, by
  rw [Lay.cl_of (k := 1) (.s h1 h2 .z)]
  decide⟩
theorem far_ldI (nx : Int → Int) (h : ∀ j : Int, 1 ≤ j → j < (400 : Nat) → nx j = 0) : ldI nx 400 = (List.range 399).map (fun (k : Nat) => (399 : Int) - (0 + (k : Nat))) ++ [0] := by
  apply List.ext_getElem?
  intro i
  unfold ldI
  by_cases c : i < 400
  · rw [List.getElem?_map, List.getElem?_range c]
    have e : Lay.load nx 400 (i : Int) = if ((399 : Nat) : Int) ≤ (i : Int) then (0 : Int) else ((399 : Nat) : Int) - (i : Int) := by
      rw [load_congr (nx := fun _ => 0) (n := 400) (fun j h1 h2 => h j h1 h2)]
      exact far_load i 399
    by_cases c2 : i < 399
    · rw [List.getElem?_append_left (by simpa using c2), List.getElem?_map, List.getElem?_range c2]
      show some (Lay.load nx 400 (i : Int)) = some ((399 : Int) - (0 + (i : Nat)))
      rw [e, if_neg (by omega), Int.zero_add]
      rfl
    · have : i = 399 := by omega
      subst this
      rw [List.getElem?_append_right (by simp)]
      show some (Lay.load nx 400 ((399 : Nat) : Int)) = _
      rw [e, if_pos (by decide)]
      simp
  · rw [List.getElem?_eq_none (by simp; omega), List.getElem?_eq_none (by simp; omega)]
theorem sc_law : FnScope ["script", "source", "n", "parents", "chains", "deep", "load", "spoilt", "d", "r", "rows", "other", "many", "turn", "answer", "far", "wrong", "which", "joint", "at"] ["script"] (defScope s_law) := ⟨rfl, rfl, rfl, by decide +kernel, rfl, by decide +kernel, by decide +kernel⟩
theorem ok_law (T : Txt w K mg) {fd : FuncData} (D : FunD K "law" "law" (defArgs s_law) (defBody s_law) (defScope s_law) [] [] (He.ga K "law") fd) : FnOk P w K mg base (L2N.CX P w) 12 (He.ga K "law") fd ["script"] (spLaw K) := by
  have c__law_source := ok_law_source (P := P) (base := base) T
  have c__law_pick := ok_law_pick (P := P) (base := base) T
  have c__law_same := ok_law_same (P := P) (base := base) T 3
  have c__law_reach := ok_law_reach (P := P) (base := base) T
  have c__law_layout := ok_law_layout (P := P) (base := base) T
  have c__law_f_chain := ok_law_f_chain (P := P) (base := base) T
  have c__law_f_loads := ok_law_f_loads (P := P) (base := base) T
  have c__law_f_judged := ok_law_f_judged (P := P) (base := base) T
  have c__law_f_asked := ok_law_f_asked (P := P) (base := base) T
  have c__law_f_agree := ok_law_f_agree (P := P) (base := base) T
  have c__law_f_hung := ok_law_f_hung (P := P) (base := base) T
  have c__law_f_spoilt := ok_law_f_spoilt (P := P) (base := base) T
  refine D.ok sc_law (fun vs H Q E h => by obtain ⟨c, ns, rfl, _⟩ := h; rfl) (fun cdv A outer s H vs Q E hr h => ?_)
  have nd := sc_law.nd
  have hu := hu64 hr
  obtain ⟨a0, ns, rfl, hns, hl, k⟩ := h
  refine ⟨_, (pss_cons (ps_set (i := 1) nd rfl (Or.inl rfl) (pe_cal c__law_source hr (by omega) (fun σ => L2N.passAt (L2N.takes_of rfl rfl rfl rfl) σ) (pa_cons (pv 0) (pa_cons pe_int pa_nil))))
        (pss_cons (ps_set (i := 2) nd rfl (Or.inr rfl) (pe_op (plusK (K := K)) pe_int (pe_cal c__law_pick hr (by omega) (fun σ => L2N.passAt (L2N.takes_of rfl rfl rfl rfl) σ) (pa_cons (pv 1) (pa_cons pe_int pa_nil)))))
        (pss_cons (ps_set (i := 3) nd rfl (Or.inr rfl) (pe_cal c__law_f_hung hr (by omega) (fun σ => L2N.passAt (L2N.takes_of rfl rfl rfl rfl) σ) (pa_cons (pv 1) (pa_cons (pv 2) pa_nil))))
        (C8.pss_cut (ps_if (pt_cmpR (sameK (K := K) hu) (pe_cal c__law_pick hr (by omega) (fun σ => L2N.passAt (L2N.takes_of rfl rfl rfl rfl) σ) (pa_cons (pv 1) (pa_cons pe_int pa_nil))) pe_int (nomark _)) (pss_one (ps_set (i := 3) nd rfl (Or.inr rfl) (pe_cal c__law_layout hr (by omega) (fun σ => L2N.passAt (L2N.takes_of rfl rfl rfl rfl) σ) (pa_cons (pv 2) (pa_cons (pe_op (plusK (K := K)) pe_int (pe_cal c__law_pick hr (by omega) (fun σ => L2N.passAt (L2N.takes_of rfl rfl rfl rfl) σ) (pa_cons (pv 1) (pa_cons pe_int pa_nil)))) pa_nil))))) pss_nil)
        (pss_cons (ps_set (i := 4) nd rfl (Or.inl rfl) (pe_op (plusK (K := K)) (pe_lst (pa_cons pe_int pa_nil)) (pe_lc (own := [("joint", 18)]) rfl nd (pi_range2 (by rfl) T.f_range (pa_cons pe_int (pa_cons (pv 2) pa_nil))) (blkOk_by (N := ["script", "source", "n", "parents", "chains", "deep", "load", "spoilt", "d", "r", "rows", "other", "many", "turn", "answer", "far", "wrong", "which", "joint", "at"]) (sc := defScope s_law) (by decide +kernel)) (fun _ _ _ _ _ => (pg_name (i := 18) nd rfl (Or.inl rfl))) (fun _ _ _ _ _ => pts_nil) (fun _ _ _ _ _ => (pe_cal c__law_f_chain hr (by omega) passN (pa_cons (pv 2) (pa_cons (pv 3) (pa_cons (pv 18) pa_nil))))))))
        (pss_cons (ps_set (i := 5) nd rfl (Or.inl rfl) (pe_callB (maxK (K := K) rfl) (by rfl) T.f_max (by decide +kernel) (pa_cons (pv 4) pa_nil)))
        (pss_cons (ps_set (i := 6) nd rfl (Or.inl rfl) (pe_callB (maxK (K := K) rfl) (by rfl) T.f_max (by decide +kernel) (pa_cons (pe_cal c__law_f_loads hr (by omega) (fun σ => L2N.passAt (L2N.takes_of rfl rfl rfl rfl) σ) (pa_cons (pv 2) (pa_cons (pv 3) pa_nil))) pa_nil)))
        (pss_cons (ps_if (pt_cmpR (otherK (K := K) hu) (pe_cal c__law_f_asked hr (by omega) (fun σ => L2N.passAt (L2N.takes_of rfl rfl rfl rfl) σ) (pa_cons pe_int (pa_cons (pv 2) (pa_cons (pv 5) (pa_cons (pv 6) (pa_cons (pe_callTy (listK (K := K)) (by rfl) T.f_list (by decide +kernel) (pa_cons (pv 3) pa_nil)) pa_nil)))))) (pe_tup (pa_cons pe_str (pa_cons pe_non pa_nil))) (nomark _)) (pss_one (ps_ret pe_bl)) pss_nil)
        (pss_cons (ps_set (i := 7) nd rfl (Or.inl rfl) (pe_cal c__law_f_spoilt hr (by omega) (fun σ => L2N.passAt (L2N.takes_of rfl rfl rfl rfl) σ) (pa_cons (pv 1) (pa_cons (pv 2) (pa_cons (pv 3) pa_nil)))))
        (pss_cons (ps_for (passes_of rfl) rfl (piL (K := K) (pe_lst (pa_cons (pe_lst (pa_cons (pv 5) (pa_cons (pv 6) (pa_cons (pv 3) pa_nil)))) (pa_cons (pe_lst (pa_cons (pe_callB (cr_max2 rfl) (by rfl) T.f_max (by decide +kernel) (pa_cons pe_int (pa_cons (pe_op op_sub (pv 5) pe_int) pa_nil))) (pa_cons (pv 6) (pa_cons (pv 3) pa_nil)))) (pa_cons (pe_lst (pa_cons (pv 5) (pa_cons (pe_callB (cr_max2 rfl) (by rfl) T.f_max (by decide +kernel) (pa_cons pe_int (pa_cons (pe_op op_sub (pv 6) pe_int) pa_nil))) (pa_cons (pv 3) pa_nil)))) (pa_cons (pe_lst (pa_cons pe_int (pa_cons pe_int (pa_cons (pv 3) pa_nil)))) (pa_cons (pe_lst (pa_cons (pe_op (plusK (K := K)) (pv 5) (pe_cal c__law_pick hr (by omega) (fun σ => L2N.passAt (L2N.takes_of rfl rfl rfl rfl) σ) (pa_cons (pv 1) (pa_cons pe_int pa_nil)))) (pa_cons (pe_op (plusK (K := K)) (pv 6) (pe_cal c__law_pick hr (by omega) (fun σ => L2N.passAt (L2N.takes_of rfl rfl rfl rfl) σ) (pa_cons (pv 1) (pa_cons (pe_op op_pow pe_int pe_int) pa_nil)))) (pa_cons (pv 3) pa_nil)))) (pa_cons (pe_lst (pa_cons (pv 5) (pa_cons (pv 6) (pa_cons (pv 7) pa_nil)))) (pa_cons (pe_lst (pa_cons pe_int (pa_cons pe_int (pa_cons (pv 7) pa_nil)))) pa_nil))))))))) (pgL (K := K) (pg_lst rfl (pgs_cons (pg_name (i := 8) nd rfl (Or.inl rfl)) (pgs_cons (pg_name (i := 9) nd rfl (Or.inl rfl)) (pgs_cons (pg_name (i := 10) nd rfl (Or.inl rfl)) pgs_nil))))) (pss_one (ps_if (pt_not (pt_val (pe_cal c__law_f_agree hr (by omega) (fun σ => L2N.passAt (L2N.takes_of rfl rfl rfl rfl) σ) (pa_cons (pv 2) (pa_cons (pv 8) (pa_cons (pv 9) (pa_cons (pe_callTy (listK (K := K)) (by rfl) T.f_list (by decide +kernel) (pa_cons (pv 10) pa_nil)) pa_nil))))))) (pss_one (ps_ret pe_bl)) pss_nil)))
        (pss_cons (ps_set (i := 11) nd rfl (Or.inr rfl) (pe_cal c__law_source hr (by omega) (fun σ => L2N.passAt (L2N.takes_of rfl rfl rfl rfl) σ) (pa_cons (pv 0) (pa_cons pe_int pa_nil))))
        (C8.pss_cut (ps_asg (pe_ix (ixK (K := K)) (pe_lst (pa_cons (pe_lst (pa_cons pe_int (pa_cons pe_int pa_nil))) (pa_cons (pe_lst (pa_cons pe_int (pa_cons pe_int pa_nil))) (pa_cons (pe_lst (pa_cons pe_int (pa_cons pe_int pa_nil))) (pa_cons (pe_lst (pa_cons pe_int (pa_cons pe_int pa_nil))) (pa_cons (pe_lst (pa_cons pe_int (pa_cons pe_int pa_nil))) (pa_cons (pe_lst (pa_cons pe_int (pa_cons pe_int pa_nil))) (pa_cons (pe_lst (pa_cons pe_int (pa_cons pe_int pa_nil))) (pa_cons (pe_lst (pa_cons pe_int (pa_cons pe_int pa_nil))) pa_nil))))))))) (pe_cal c__law_pick hr (by omega) (fun σ => L2N.passAt (L2N.takes_of rfl rfl rfl rfl) σ) (pa_cons (pv 11) (pa_cons pe_int pa_nil))) (fun _ _ => rfl)) (pgL (K := K) (pg_lst rfl (pgs_cons (pg_name (i := 8) nd rfl (Or.inl rfl)) (pgs_cons (pg_name (i := 9) nd rfl (Or.inl rfl)) pgs_nil)))))
        (pss_cons (ps_set (i := 12) nd rfl (Or.inr rfl) (pe_op (plusK (K := K)) (pe_cal c__law_reach hr (by omega) (fun σ => L2N.passAt (L2N.takes_of rfl rfl rfl rfl) σ) (pa_cons (pv 8) (pa_cons (pv 9) pa_nil))) pe_int))
        (pss_cons (ps_for (passes_of rfl) rfl (pi_range1 (by rfl) T.f_range (pa_cons pe_int pa_nil)) (pg_name (i := 13) nd rfl (Or.inl rfl)) (pss_cons (ps_set (i := 10) nd rfl (Or.inl rfl) (pe_cal c__law_f_hung hr (by omega) (fun σ => L2N.passAt (L2N.takes_of rfl rfl rfl rfl) σ) (pa_cons (pv 11) (pa_cons (pv 12) pa_nil))))
        (C8.pss_cut (ps_if (pt_cmpR op_gt (pv 13) pe_int (nomark _)) (pss_one (ps_setLc (i := 10) (own := [("at", 19)]) rfl nd rfl rfl (sw_true rfl rfl rfl (by decide +kernel)) (pi_range1 (by rfl) T.f_range (pa_cons (pe_op op_sub (pv 12) pe_int) pa_nil)) (blkOk_by (N := ["script", "source", "n", "parents", "chains", "deep", "load", "spoilt", "d", "r", "rows", "other", "many", "turn", "answer", "far", "wrong", "which", "joint", "at"]) (sc := defScope s_law) (by decide +kernel)) (fun _ _ _ _ _ => (pg_name (i := 19) nd rfl (Or.inl rfl))) (fun _ _ _ _ _ => pts_nil) (fun _ _ _ _ _ => (pe_cal c__law_pick hr (by omega) passN (pa_cons (pv 11) (pa_cons (pe_op (plusK (K := K)) (pv 12) pe_int) pa_nil)))))) pss_nil)
        (pss_cons (ps_set (i := 14) nd rfl (Or.inl rfl) (pe_cal c__law_f_asked hr (by omega) (fun σ => L2N.passAt (L2N.takes_of rfl rfl rfl rfl) σ) (pa_cons pe_int (pa_cons (pv 12) (pa_cons (pv 8) (pa_cons (pv 9) (pa_cons (pe_callTy (listK (K := K)) (by rfl) T.f_list (by decide +kernel) (pa_cons (pv 10) pa_nil)) pa_nil)))))))
        (pss_one (ps_if (PW.pt (pw_or (pt_cmpR (sameK (K := K) hu) (pv 14) (pe_tup (pa_cons pe_str (pa_cons pe_non pa_nil))) (nomark _)) (pw_or1 (pt_not (pt_val (pe_cal c__law_same hr (by omega) (fun σ => L2N.passAt (L2N.takes_of rfl rfl rfl rfl) σ) (pa_cons (pv 14) (pa_cons (pe_tup (pa_cons pe_str (pa_cons (pe_cal c__law_f_judged hr (by omega) (fun σ => L2N.passAt (L2N.takes_of rfl rfl rfl rfl) σ) (pa_cons (pv 12) (pa_cons (pv 8) (pa_cons (pv 9) (pa_cons (pv 10) pa_nil))))) pa_nil))) pa_nil)))))))) (pss_one (ps_ret pe_bl)) pss_nil))))))
        (C8.pss_cut (ps_if (pt_cmpR (sameK (K := K) hu) (pe_cal c__law_pick hr (by omega) (fun σ => L2N.passAt (L2N.takes_of rfl rfl rfl rfl) σ) (pa_cons (pv 11) (pa_cons pe_int pa_nil))) pe_int (nomark _)) (pss_cons (ps_set (i := 15) nd rfl (Or.inl rfl) (pe_op op_timesB (pe_lst (pa_cons pe_int pa_nil)) pe_int))
        (pss_one (ps_if (pt_not (pt_val (pe_cal c__law_same hr (by omega) (fun σ => L2N.passAt (L2N.takes_of rfl rfl rfl rfl) σ) (pa_cons (pe_cal c__law_f_asked hr (by omega) (fun σ => L2N.passAt (L2N.takes_of rfl rfl rfl rfl) σ) (pa_cons pe_int (pa_cons pe_int (pa_cons pe_int (pa_cons pe_int (pa_cons (pv 15) pa_nil)))))) (pa_cons (pe_tup (pa_cons pe_str (pa_cons (pe_op (plusK (K := K)) (pe_lc (own := [("at", 19)]) rfl nd (pi_range1 (by rfl) T.f_range (pa_cons pe_int pa_nil)) (blkOk_by (N := ["script", "source", "n", "parents", "chains", "deep", "load", "spoilt", "d", "r", "rows", "other", "many", "turn", "answer", "far", "wrong", "which", "joint", "at"]) (sc := defScope s_law) (by decide +kernel)) (fun _ _ _ _ _ => (pg_name (i := 19) nd rfl (Or.inl rfl))) (fun _ _ _ _ _ => pts_nil) (fun _ _ _ _ _ => (pe_op op_sub pe_int (pv 19)))) (pe_lst (pa_cons pe_int pa_nil))) pa_nil))) pa_nil))))) (pss_one (ps_ret pe_bl)) pss_nil))) pss_nil)
        (pss_cons (ps_set (i := 16) nd rfl (Or.inl rfl) (pe_lst (pa_cons (pe_op (plusK (K := K)) pe_int (pe_cal c__law_pick hr (by omega) (fun σ => L2N.passAt (L2N.takes_of rfl rfl rfl rfl) σ) (pa_cons (pv 11) (pa_cons (pe_op op_pow pe_int pe_int) pa_nil)))) (pa_cons (pe_op op_sub pe_int (pe_cal c__law_pick hr (by omega) (fun σ => L2N.passAt (L2N.takes_of rfl rfl rfl rfl) σ) (pa_cons (pv 11) (pa_cons pe_int pa_nil)))) pa_nil))))
        (pss_cons (ps_for (passes_of rfl) rfl (pi_range1 (by rfl) T.f_range (pa_cons pe_int pa_nil)) (pg_name (i := 17) nd rfl (Or.inl rfl)) (pss_cons (ps_if (pt_not (pt_val (pe_cal c__law_same hr (by omega) (fun σ => L2N.passAt (L2N.takes_of rfl rfl rfl rfl) σ) (pa_cons (pe_cal c__law_f_asked hr (by omega) (fun σ => L2N.passAt (L2N.takes_of rfl rfl rfl rfl) σ) (pa_cons (pv 17) (pa_cons (pe_ix (ixK (K := K)) (pv 16) pe_int (fun _ _ => rfl)) (pa_cons pe_int (pa_cons pe_int (pa_cons (pe_lst (pa_cons pe_int pa_nil)) pa_nil)))))) (pa_cons (pe_tup (pa_cons pe_str (pa_cons pe_str pa_nil))) pa_nil))))) (pss_one (ps_ret pe_bl)) pss_nil)
        (pss_one (ps_if (pt_not (pt_val (pe_cal c__law_same hr (by omega) (fun σ => L2N.passAt (L2N.takes_of rfl rfl rfl rfl) σ) (pa_cons (pe_cal c__law_f_asked hr (by omega) (fun σ => L2N.passAt (L2N.takes_of rfl rfl rfl rfl) σ) (pa_cons (pv 17) (pa_cons (pe_ix (ixK (K := K)) (pv 16) pe_int (fun _ _ => rfl)) (pa_cons pe_int (pa_cons pe_int (pa_cons (pe_lst pa_nil) pa_nil)))))) (pa_cons (pe_tup (pa_cons pe_str (pa_cons pe_str pa_nil))) pa_nil))))) (pss_one (ps_ret pe_bl)) pss_nil))))
        (pss_one (ps_ret pe_bl))))))))))))))))))), ?_⟩
  walk_at "st"
  refine ⟨a0, ns, 0, rfl, hns, hl, by decide, fun p H1 hp0 e1 s1 => ?_⟩
  have sc1 : Sc K [p] a0 (ns.map V.int) H1 := (Sc.start hns (fun q hq => by rw [List.mem_singleton.mp hq]; exact hp0)).ext e1
  have pp : p ∈ [p] := List.mem_cons_self
  walk_at "st"
  refine ⟨p, 14, rfl, s1, by decide, by decide, fun r2 H2 r20 r21 s2 n2 => ?_⟩
  obtain ⟨n, hn, en⟩ : ∃ n : Nat, (1 ≤ n ∧ n ≤ 14) ∧ 1 + r2 = (n : Int) := ⟨(1 + r2).toNat, by omega, by omega⟩
  walk_at "st"
  rw [en]
  refine ⟨p, n, rfl, s2, by omega, fun q H3 nx hq s3 b3 h3 g3 => ?_⟩
  have sc3 := (sc1.but pp (.of n2)).but pp b3
  have nqp := (src_ne s2 hq).symm
  walk_at "st"
  refine r_cut (fun σ' H' => ∃ (q : Addr) (nx : Int → Int), σ' = [some (.ref a0), some (.ref p), some (.int n), some (.ref q), none, none, none, none, none, none, none, none, none, none, none, none, none, none, none, none] ∧ Src H' p ∧ Sc K [p] a0 (ns.map V.int) H' ∧ H' q = some (.lst ((parL nx n).map V.int)) ∧ GoodP nx n ∧ q ≠ p) ?_ ?_
  · walk_at "st"
    refine ⟨p, 4, rfl, s3, by decide, by decide, fun r4 H4 r40 r41 s4 n4 => ?_⟩
    have sc4 := sc3.but pp (.of n4)
    walk_at "st"
    refine ite_d (fun c => ?_) (fun c => ?_)
    · walk_at "st"
      refine ⟨p, 3, rfl, s4, by decide, by decide, fun r5 H5 r50 r51 s5 n5 => ?_⟩
      obtain ⟨d, hd, ed⟩ : ∃ d : Nat, (1 ≤ d ∧ d ≤ 3) ∧ 1 + r5 = (d : Int) := ⟨(1 + r5).toNat, by omega, by omega⟩
      walk_at "st"
      rw [ed]
      obtain ⟨r, hle⟩ := least_ex n d hd.1
      obtain ⟨par, lev, B⟩ := Lay.built_ex n d r hn.1
      refine ⟨n, d, par, lev, r, rfl, by omega, by omega, hle, B, fun q6 H6 hq6 e6 h6 => ?_⟩
      exact ⟨q6, par, rfl, s5.ext e6, (sc4.but pp (.of n5)).ext e6, h6, built_good B hle.1, (src_ne s5 hq6).symm⟩
    · walk_at "st"
      exact ⟨q, nx, rfl, s4, sc4, stay n4 nqp h3, g3, nqp⟩
  rintro σ' H4 ⟨q, nx, rfl, s4, sc4, h4, g4, nqp⟩
  clear h3 g3 b3 hq sc3
  have hxi := nxd_ints fun j h1 h2 => (g4 j h1 h2).1
  have dsl : ((parL nx n).map PyData.int).length = n - 1 := by rw [List.length_map, parL_len]
  walk_at "st"
  intro z5 H5 hz5 e5 h5
  have h5q := e5 _ _ h4
  walk_at "st"
  intro Dl hDl
  rw [show ((n : Int) - 1).toNat = n - 1 by omega]
  refine lcW_range (LcP H5 Dl fun k => .int (Lay.cl nx n ((k : Int) + 1))) (.start hDl) (fun i H6 hi pl => ?_) (fun H6 pl => ?_)
  · walk_at "st"
    refine r_lcW rfl ?_
    walk_at "st"
    refine ⟨n, 1 + i, q, _, _, by rw [Int.natCast_add]; rfl, by omega, sqL (pl.e _ _ h5q), dps_ints _, dsl, ?_⟩
    unfold clV
    rw [Lay.cl_congr hxi, if_pos (g4 _ (by omega) (by omega)).2]
    refine pl.push hDl (by omega) .rfl ?_
    rw [show ((1 + i : Nat) : Int) = (i : Int) + 1 by omega]
  have hch : H6 Dl = some (.lst ((chV nx n).map V.int)) := by
    rw [pl.d]
    unfold chV
    rw [List.map_map]
    rfl
  walk_at "st"
  refine r_catL (pl.e _ _ h5) hch (by rw [List.length_map, chV_len]; show 1 + _ ≤ _; omega) (fun qc H7 hqc e7 h7 => ?_)
  have h7' : H7 qc = some (.lst (((0 : Int) :: chV nx n).map V.int)) := h7
  obtain ⟨deep, hd1, hd2⟩ := max_ex ((0 : Int) :: chV nx n) (by simp)
  have hdeep : ∀ j : Nat, 1 ≤ j → j < n → Lay.cl nx n j ≤ deep := fun j h1 h2 => hd2 _ (List.mem_cons_of_mem _ (by
    unfold chV
    refine List.mem_map.mpr ⟨j - 1, List.mem_range.mpr (by omega), ?_⟩
    rw [show ((j - 1 : Nat) : Int) + 1 = (j : Int) by omega]))
  walk_at "st"
  refine r_maxL (sqL h7') hd1 hd2 ?_
  have e47 := e5.trans (pl.e.trans e7)
  have h7q := e47 _ _ h4
  walk_at "st"
  refine ⟨n, q, _, nx, rfl, by omega, sqL h7q, par_ints fun j h1 h2 => (g4 j h1 h2).1, fun ql H8 hql e8 h8 => ?_⟩
  rw [ldV_eq] at h8
  obtain ⟨load, hl1, hl2⟩ := max_ex (ldI nx n) (by rw [ldI_len]; omega)
  have hload : ∀ x : Nat, x < n → Lay.load nx n x ≤ load := fun x hx => hl2 _ (by
    unfold ldI
    exact List.mem_map.mpr ⟨x, List.mem_range.mpr hx, rfl⟩)
  walk_at "st"
  refine r_maxL (sqL h8) hl1 hl2 ?_
  have h8q := e8 _ _ h7q
  walk_at "st"
  refine r_listL (sqL h8q) (fun lq H9 hlq e9 h9 => ?_)
  walk_at "st"
  refine ⟨2, n, deep, load, lq, _, rfl, by decide, ints_data h9, fun c => absurd c (by omega), fun _ c => absurd c (by omega), fun _ _ => ⟨fun c => absurd c (by decide), fun c => absurd c (by decide), fun c => absurd c (by decide), fun _ a x q10 H10 hj e10 hx hq10 => ?_⟩⟩
  rw [Int.toNat_natCast] at hj
  have ea := hj.uniq (judge_ok g4 hdeep hload)
  subst ea
  walk_at "st"
  intro t H11 ht e11 h11
  refine .inr ⟨_, _, judge_dp (e11 _ _ hq10) (e11.dp _ hx), judge_dp (x := .non) (d := .none) h11 .non, shN, shN, ?_⟩
  rw [show PyData.eqv (.tuple [.str "told", JA.ok.d]) (.tuple [.str "told", .none]) = true from eqvT]
  walk_at "st"
  have e4_11 := e47.trans (e8.trans (e9.trans (e10.trans e11)))
  have s11 := s4.ext e4_11
  have h11q := e4_11 _ _ h4
  refine ⟨p, q, n, _, rfl, s11, by omega, sqL h11q, parL_len nx n, fun sq H12 ds s12 b12 hD hsm => ?_⟩
  have h12q := b12 _ _ nqp h11q
  have sc12 := (sc4.ext e4_11).but pp b12
  walk_at "st"
  intro i1 H13 hi1 e13 h13
  walk_at "st"
  intro i2 H14 hi2 e14 h14
  walk_at "st"
  intro i3 H15 hi3 e15 h15
  walk_at "st"
  intro i4 H16 hi4 e16 h16
  walk_at "st"
  have e12_16 := e13.trans (e14.trans (e15.trans e16))
  have s16 := s12.ext e12_16
  refine ⟨p, 3, rfl, s16, by decide, by decide, fun r17 H17 _ _ s17 n17 => ?_⟩
  walk_at "st"
  refine ⟨p, _, rfl, s17, by decide, by decide, fun r18 H18 _ _ s18 n18 => ?_⟩
  walk_at "st"
  intro i5 H19 hi5 e19 h19
  walk_at "st"
  intro i6 H20 hi6 e20 h20
  walk_at "st"
  intro i7 H21 hi7 e21 h21
  walk_at "st"
  intro big H22 hbig e22 h22
  walk_at "st"
  have b1618 : But p H16 H18 := (But.of n17).trans (.of n18)
  have ne : ∀ {G : Hp} {x : Addr}, Src G p → G x = none → x ≠ p := fun sg hx => (src_ne sg hx).symm
  have b12_16 : But p H12 H16 := ext_but e12_16
  have b12_18 : But p H12 H18 := b12_16.trans b1618
  have e19_22 := e20.trans (e21.trans e22)
  have e18_22 := e19.trans e19_22
  have b12_22 : But p H12 H22 := b12_18.ext e18_22
  have hpD : Data K H22 q ((parL nx n).map PyData.int) := ints_data (b12_22 _ _ nqp h12q)
  have hpS : smallD 3 (.list ((parL nx n).map PyData.int)) := ints_small (by rw [parL_len]; omega)
  have hsD : Data K H22 sq ds := hD H22 b12_22
  have up16 : ∀ {x : Addr} {o : HO}, x ≠ p → H16 x = some o → H22 x = some o := fun hx h => e18_22 _ _ (b1618 _ _ hx h)
  have I1 : ItemR K H22 (.ref i1) := ⟨i1, _, _, q, _, rfl, up16 (ne s12 hi1) ((e14.trans (e15.trans e16)) _ _ h13), hpD, hpS⟩
  have I2 : ItemR K H22 (.ref i2) := ⟨i2, _, _, q, _, rfl, up16 (ne (s12.ext e13) hi2) ((e15.trans e16) _ _ h14), hpD, hpS⟩
  have I3 : ItemR K H22 (.ref i3) := ⟨i3, _, _, q, _, rfl, up16 (ne (s12.ext (e13.trans e14)) hi3) (e16 _ _ h15), hpD, hpS⟩
  have I4 : ItemR K H22 (.ref i4) := ⟨i4, _, _, q, _, rfl, up16 (ne (s12.ext (e13.trans (e14.trans e15))) hi4) h16, hpD, hpS⟩
  have I5 : ItemR K H22 (.ref i5) := ⟨i5, _, _, q, _, rfl, e19_22 _ _ h19, hpD, hpS⟩
  have I6 : ItemR K H22 (.ref i6) := ⟨i6, _, _, sq, _, rfl, (e21.trans e22) _ _ h20, hsD, hsm⟩
  have I7 : ItemR K H22 (.ref i7) := ⟨i7, _, _, sq, _, rfl, e22 _ _ h21, hsD, hsm⟩
  have items := items7 I1 I2 I3 I4 I5 I6 I7
  have s22 := s18.ext e18_22
  have sc22 := ((sc12.ext e12_16).but pp b1618).ext e18_22
  refine r_li (sqL h22) ?_
  refine forW_list (fun i σ' H' => ∃ v8 v9 v10, σ' = [some (.ref a0), some (.ref p), some (.int n), some (.ref q), some (.ref qc), some (.int deep), some (.int load), some (.ref sq), v8, v9, v10, none, none, none, none, none, none, none, none, none] ∧ Ext H22 H') ⟨none, none, none, rfl, .rfl⟩ (fun i σ' H' hi ⟨_, _, _, _, e⟩ => sqL (e _ _ h22)) ?_ ?_
  · rintro i x σ' H23 hx ⟨v8, v9, v10, rfl, e23⟩
    obtain ⟨a, d, r, qq, dss, rfl, ha, hDq, hsq⟩ := (items _ (List.mem_of_getElem? hx)).ext e23
    refine r_glst (sqL ha) rfl ?_
    walk_at "st"
    obtain ⟨xs, hxs, hdx⟩ := hDq
    refine r_listL hxs (fun lq H24 hlq e24 h24 => ?_)
    walk_at "st"
    refine ⟨n, d, r, lq, dss, rfl, by omega, ⟨xs, sqL h24, e24.dps _ hdx⟩, hsq, fun H25 e25 => ?_⟩
    walk_at "st"
    exact ⟨_, _, _, rfl, e23.trans (e24.trans e25)⟩
  rintro σ' H23 ⟨v8, v9, v10, rfl, e23⟩
  have sc23 := sc22.ext e23
  walk_at "st"
  refine ⟨a0, ns, 1, rfl, sc23.1, hl, by decide, fun o H24 ho e24 s24 => ?_⟩
  walk_at "st"
  refine r_cut (fun σ' H' => ∃ d r : Nat, (d ≤ 4 ∧ r ≤ 4 ∧ Del.D d r ≤ 100) ∧ σ' = [some (.ref a0), some (.ref p), some (.int n), some (.ref q), some (.ref qc), some (.int deep), some (.int load), some (.ref sq), some (.int d), some (.int r), v10, some (.ref o), none, none, none, none, none, none, none, none] ∧ Src H' o) ?_ ?_
  · walk_at "st"
    intro j1 G1 hj1 f1 g1
    walk_at "st"
    intro j2 G2 hj2 f2 g2
    walk_at "st"
    intro j3 G3 hj3 f3 g3
    walk_at "st"
    intro j4 G4 hj4 f4 g4
    walk_at "st"
    intro j5 G5 hj5 f5 g5
    walk_at "st"
    intro j6 G6 hj6 f6 g6
    walk_at "st"
    intro j7 G7 hj7 f7 g7
    walk_at "st"
    intro j8 G8 hj8 f8 g8
    walk_at "st"
    intro jb G9 hjb f9 g9
    walk_at "st"
    have f18 := f1.trans (f2.trans (f3.trans (f4.trans (f5.trans (f6.trans (f7.trans f8))))))
    have so8 := s24.ext f18
    refine ⟨o, 8, rfl, so8.ext f9, by decide, by decide, fun r10 G10 r100 r101 so10 n10 => ?_⟩
    have neo : ∀ {G : Hp} {x : Addr}, Src G o → G x = none → x ≠ o := fun sg hx => (src_ne sg hx).symm
    have up : ∀ {x : Addr} {u : HO}, x ≠ o → G9 x = some u → G10 x = some u := fun hx h => (n10 _ hx).trans h
    have gb := up (neo so8 hjb) g9
    obtain ⟨j, rfl⟩ : ∃ j : Nat, r10 = j := ⟨r10.toNat, by omega⟩
    have hj : j < 8 := by omega
    have sG1 := s24.ext f1
    have sG2 := sG1.ext f2
    have sG3 := sG2.ext f3
    have sG4 := sG3.ext f4
    have sG5 := sG4.ext f5
    have sG6 := sG5.ext f6
    have sG7 := sG6.ext f7
    walk_at "st"
    rcases j with _ | _ | _ | _ | _ | _ | _ | _ | j
    · refine r_atL (sqL gb) (atI_nat (j := 0) rfl) ?_
      refine r_glst (sqL (up (neo s24 hj1) ((f2.trans (f3.trans (f4.trans (f5.trans (f6.trans (f7.trans (f8.trans f9))))))) _ _ g1))) rfl ?_
      walk_at "st"
      exact ⟨1, 1, ⟨by decide, by decide, by simp [Del.D]⟩, rfl, so10⟩
    · refine r_atL (sqL gb) (atI_nat (j := 1) rfl) ?_
      refine r_glst (sqL (up (neo sG1 hj2) ((f3.trans (f4.trans (f5.trans (f6.trans (f7.trans (f8.trans f9)))))) _ _ g2))) rfl ?_
      walk_at "st"
      exact ⟨1, 2, ⟨by decide, by decide, by simp [Del.D]⟩, rfl, so10⟩
    · refine r_atL (sqL gb) (atI_nat (j := 2) rfl) ?_
      refine r_glst (sqL (up (neo sG2 hj3) ((f4.trans (f5.trans (f6.trans (f7.trans (f8.trans f9))))) _ _ g3))) rfl ?_
      walk_at "st"
      exact ⟨2, 1, ⟨by decide, by decide, by simp [Del.D]⟩, rfl, so10⟩
    · refine r_atL (sqL gb) (atI_nat (j := 3) rfl) ?_
      refine r_glst (sqL (up (neo sG3 hj4) ((f5.trans (f6.trans (f7.trans (f8.trans f9)))) _ _ g4))) rfl ?_
      walk_at "st"
      exact ⟨1, 3, ⟨by decide, by decide, by simp [Del.D]⟩, rfl, so10⟩
    · refine r_atL (sqL gb) (atI_nat (j := 4) rfl) ?_
      refine r_glst (sqL (up (neo sG4 hj5) ((f6.trans (f7.trans (f8.trans f9))) _ _ g5))) rfl ?_
      walk_at "st"
      exact ⟨3, 1, ⟨by decide, by decide, by simp [Del.D]⟩, rfl, so10⟩
    · refine r_atL (sqL gb) (atI_nat (j := 5) rfl) ?_
      refine r_glst (sqL (up (neo sG5 hj6) ((f7.trans (f8.trans f9)) _ _ g6))) rfl ?_
      walk_at "st"
      exact ⟨2, 2, ⟨by decide, by decide, by simp [Del.D]⟩, rfl, so10⟩
    · refine r_atL (sqL gb) (atI_nat (j := 6) rfl) ?_
      refine r_glst (sqL (up (neo sG6 hj7) ((f8.trans f9) _ _ g7))) rfl ?_
      walk_at "st"
      exact ⟨0, 4, ⟨by decide, by decide, by simp [Del.D]⟩, rfl, so10⟩
    · refine r_atL (sqL gb) (atI_nat (j := 7) rfl) ?_
      refine r_glst (sqL (up (neo sG7 hj8) (f9 _ _ g8))) rfl ?_
      walk_at "st"
      exact ⟨4, 0, ⟨by decide, by decide, by simp [Del.D]⟩, rfl, so10⟩
    · omega
  rintro σ' H25 ⟨d, r, ⟨hd4, hr4, hD100⟩, rfl, s25⟩
  have hDp := Del.D_pos d r
  walk_at "st"
  refine ⟨d, r, rfl, by omega, by omega, ?_⟩
  obtain ⟨many, em⟩ : ∃ m : Nat, m = Del.D d r + 1 := ⟨_, rfl⟩
  walk_at "st"
  rw [show ((Del.D d r : Nat) : Int) + 1 = (many : Int) by omega]
  refine forW_range (fun i σ' H' => ∃ v10 v13 v14, σ' = [some (.ref a0), some (.ref p), some (.int n), some (.ref q), some (.ref qc), some (.int deep), some (.int load), some (.ref sq), some (.int d), some (.int r), v10, some (.ref o), some (.int many), v13, v14, none, none, none, none, none] ∧ Src H' o) ⟨_, _, _, rfl, s25⟩ ?_ ?_
  · rintro i σ' H26 hi ⟨v10, v13, v14, rfl, s26⟩
    walk_at "st"
    refine ⟨o, many, rfl, s26, by omega, fun q27 H27 nx7 hq27 s27 b27 h27 g27 => ?_⟩
    have nq27 := (src_ne s26 hq27).symm
    walk_at "st"
    refine r_cut (fun σ' H' => ∃ (qr : Addr) (zs : List Int), σ' = [some (.ref a0), some (.ref p), some (.int n), some (.ref q), some (.ref qc), some (.int deep), some (.int load), some (.ref sq), some (.int d), some (.int r), some (.ref qr), some (.ref o), some (.int many), some (.int (0 + (i : Int))), v14, none, none, none, none, none] ∧ Src H' o ∧ H' qr = some (.lst (zs.map V.int)) ∧ zs.length = many - 1) ?_ ?_
    · walk_at "st"
      refine ite_d (fun c => ?_) (fun c => ?_)
      · walk_at "st"
        intro Dr hDr
        rw [show ((many : Int) - 1).toNat = many - 1 by omega]
        refine lcW_range (fun i H' => Src H' o ∧ Dr ≠ o ∧ ∃ zs : List Int, zs.length = i ∧ H' Dr = some (.lst (zs.map V.int))) ⟨s27.ext (Ext.new hDr), (src_ne s27 hDr).symm, [], rfl, upd_same⟩ (fun i H28 hi ⟨s28, nDr, zs, hz, h28⟩ => ?_) (fun H28 ⟨s28, nDr, zs, hz, h28⟩ => ?_)
        · walk_at "st"
          refine r_lcW rfl ?_
          walk_at "st"
          refine ⟨o, _, rfl, s28, by omega, by omega, fun r29 H29 _ _ s29 n29 => ?_⟩
          refine ⟨_, stay n29 nDr h28, by rw [List.length_map, sizeLine_eq]; omega, s29.stay (.of fun b hb => upd_ne hb) nDr.symm, nDr, zs ++ [r29], by rw [List.length_append, hz]; rfl, ?_⟩
          rw [upd_same, List.map_append]
          rfl
        · walk_at "st"
          exact ⟨Dr, zs, rfl, s28, h28, hz⟩
      · walk_at "st"
        exact ⟨q27, _, rfl, s27, h27, parL_len _ _⟩
    rintro σ' H28 ⟨qr, zs, rfl, s28, h28, hz⟩
    walk_at "st"
    refine r_listL (sqL h28) (fun lq H29 hlq e29 h29 => ?_)
    walk_at "st"
    refine ⟨2, many, d, r, lq, _, rfl, by decide, ints_data h29, fun c => absurd c (by omega), fun _ c => absurd c (by omega), fun _ _ => ⟨fun c => absurd c (by decide), fun c => absurd c (by decide), fun c => absurd c (by decide), fun _ a x q30 H30 hj e30 hx hq30 => ?_⟩⟩
    rw [Int.toNat_natCast] at hj
    walk_at "st"
    intro t1 H31 ht1 e31 h31
    have hx31 := e31.dp _ hx
    have hq31 := e31 _ _ hq30
    cases a with
    | ok =>
      exfalso
      have := judge_most (by omega) hj
      omega
    | bad s i' =>
      refine .inr ⟨_, _, judge_dp hq31 hx31, judge_dp (x := .non) (d := .none) h31 .non, shB s i' (judge_bad hj), shN, ?_⟩
      rw [show PyData.eqv (.tuple [.str "told", (JA.bad s i').d]) (.tuple [.str "told", .none]) = false from eqvF s i']
      walk_at "st"
      have e28_31 := e29.trans (e30.trans e31)
      refine ⟨many, d, r, qr, _, rfl, by omega, ints_data (e28_31 _ _ h28), fun a' x' H32 hj' e32 hx' => ?_⟩
      have ea := hj.uniq hj'
      subst ea
      walk_at "st"
      intro t2 H33 ht2 e33 h33
      walk_at "st"
      refine ⟨.ref q30, .ref t2, .tuple [.str "told", (JA.bad s i').d], rfl, (e32.trans e33).dp _ (judge_dp hq31 hx31), judge_dp h33 (e33.dp _ hx'), told_small (JA.bad s i').small, fun H34 e34 => ?_⟩
      walk_at "st"
      exact ⟨_, _, _, rfl, s28.ext (e28_31.trans (e32.trans (e33.trans e34)))⟩
  rintro σ' H26 ⟨v10', v13, v14, rfl, s26⟩
  walk_at "st"
  refine r_cut (fun σ' H' => ∃ v15 v19, σ' = [some (.ref a0), some (.ref p), some (.int n), some (.ref q), some (.ref qc), some (.int deep), some (.int load), some (.ref sq), some (.int d), some (.int r), v10', some (.ref o), some (.int many), v13, v14, v15, none, none, none, v19] ∧ Src H' o) ?_ ?_
  · walk_at "st"
    refine ⟨o, 5, rfl, s26, by decide, by decide, fun r27 H27 _ _ s27 n27 => ?_⟩
    walk_at "st"
    refine ite_d (fun c => ?_) (fun c => ?_)
    · walk_at "st"
      intro z1 H28 hz1 e28 h28
      walk_at "st"
      refine r_repL h28 (by decide) (by decide) (by decide) (fun far H29 hfar e29 h29 => ?_)
      have hf : H29 far = some (.lst ((parL (fun _ => 0) 400).map V.int)) := by
        rw [h29]
        congr 2
      walk_at "st"
      refine ⟨1, 400, 1, 1, far, _, rfl, by decide, ints_data hf, fun c => absurd c (by decide), fun _ c => absurd c (by decide), fun _ _ => ⟨fun _ i hwi => ?_, fun c => absurd c (by decide), fun _ _ q30 p30 H30 hp30 e30 h30 hq30 => ?_, fun c => absurd c (by decide)⟩⟩
      · cases (wp_good far_good).uniq hwi
      have hxf := nxd_ints (nx := fun _ => 0) (n := 400) fun j h1 h2 => (far_good j h1 h2).1
      rw [show (400 : Int).toNat = 400 from rfl, far_ldI _ hxf] at h30
      walk_at "st"
      intro Df hDf
      refine lcW_range (LcP H30 Df fun k => .int ((399 : Int) - (0 + (k : Nat)))) (.start hDf) (fun i H31 hi pl => ?_) (fun H31 pl => ?_)
      · walk_at "st"
        refine r_lcW rfl ?_
        walk_at "st"
        have hi' : i < 399 := hi
        exact pl.push hDf (by omega) .rfl rfl
      walk_at "st"
      intro z2 H32 hz2 e32 h32
      walk_at "st"
      refine r_catL (e32 _ _ pl.d) h32 (by rw [List.length_map, List.length_range]; decide) (fun q33 H33 hq33 e33 h33 => ?_)
      walk_at "st"
      intro t34 H34 ht34 e34 h34
      walk_at "st"
      have e30_34 := pl.e.trans (e32.trans (e33.trans e34))
      have hv : H33 q33 = some (.lst (((List.range 399).map (fun (k : Nat) => (399 : Int) - (0 + (k : Nat))) ++ [0]).map V.int)) := by
        rw [h33, List.map_append, List.map_map]
        rfl
      refine ⟨.ref q30, .ref t34, .tuple [.str "told", .list (((List.range 399).map (fun (k : Nat) => (399 : Int) - (0 + (k : Nat))) ++ [0]).map PyData.int)], rfl, judge_dp (e30_34 _ _ hq30) (.lst (sqL (e30_34 _ _ h30)) (dps_ints _)), judge_dp h34 (.lst (sqL (e34 _ _ hv)) (dps_ints _)), told_small (small_ints 0 (by rw [List.length_append, List.length_map, List.length_range]; decide)), fun H35 e35 => ?_⟩
      walk_at "st"
      exact ⟨_, _, rfl, s27.ext (e28.trans (e29.trans (e30.trans (e30_34.trans e35))))⟩
    · walk_at "st"
      exact ⟨_, _, rfl, s27⟩
  rintro σ' H27 ⟨v15, v19, rfl, s27⟩
  walk_at "st"
  refine ⟨o, _, rfl, s27, by decide, by decide, fun r28 H28 r280 r281 s28 n28 => ?_⟩
  walk_at "st"
  refine ⟨o, 9, rfl, s28, by decide, by decide, fun r29 H29 r290 r291 s29 n29 => ?_⟩
  walk_at "st"
  intro wr H30 hwr e30 h30
  walk_at "st"
  refine forW_range (fun i σ' H' => ∃ v17, σ' = [some (.ref a0), some (.ref p), some (.int n), some (.ref q), some (.ref qc), some (.int deep), some (.int load), some (.ref sq), some (.int d), some (.int r), v10', some (.ref o), some (.int many), v13, v14, v15, some (.ref wr), v17, none, v19] ∧ Ext H30 H') ⟨none, rfl, .rfl⟩ ?_ ?_
  · rintro i σ' H31 hi ⟨v17, rfl, e31⟩
    have h31 := e31 _ _ h30
    have hi3 : i < 3 := hi
    walk_at "st"
    refine r_atL (sqL h31) (atI_nat (j := 0) rfl) ?_
    walk_at "st"
    intro l1 H32 hl1 e32 h32
    walk_at "st"
    refine ⟨_, 401 + r28, 1, 1, l1, [0].map PyData.int, rfl, by omega, ints_data h32, fun _ q33 H33 e33 h33 => ?_, fun c => absurd c (by omega), fun _ c => absurd c (by omega)⟩
    walk_at "st"
    intro t34 H34 ht34 e34 h34
    walk_at "st"
    refine ⟨.ref q33, .ref t34, bothD "TooMany" "layout", rfl, both_dp (e34 _ _ h33), both_dp h34, both_small _ _, fun H35 e35 => ?_⟩
    have e31_35 := e32.trans (e33.trans (e34.trans e35))
    walk_at "st"
    refine r_atL (sqL (e31_35 _ _ h31)) (atI_nat (j := 1) rfl) ?_
    walk_at "st"
    intro l2 H36 hl2 e36 h36
    walk_at "st"
    refine ⟨_, 0 - r29, 1, 1, l2, [], rfl, by omega, ⟨[], sqL h36, .nil⟩, fun c => absurd c (by omega), fun _ _ q37 H37 e37 h37 => ?_, fun c => absurd c (by omega)⟩
    walk_at "st"
    intro t38 H38 ht38 e38 h38
    walk_at "st"
    refine ⟨.ref q37, .ref t38, bothD "BadLayout" "parts", rfl, both_dp (e38 _ _ h37), both_dp h38, both_small _ _, fun H39 e39 => ?_⟩
    walk_at "st"
    exact ⟨_, rfl, e31.trans (e31_35.trans (e36.trans (e37.trans (e38.trans e39))))⟩
  rintro σ' H31 ⟨v17, rfl, e31⟩
  walk_at "st"
  exact k H31

end
end K27

theorem PySem.Challenge.cw_toldoutside_k27_judged_layouts_holds : PySem.Challenge.rw_toldoutside_k27_judged_layouts.Holds :=
  K27.law_of 12 ⟨rfl, by decide, by decide⟩ fun w K mg base _ _ T fd D => K27.ok_law T D
