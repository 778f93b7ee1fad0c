import PyProof.Rows.All
import Wide.All
import OpenK.AllK
import Wide.FinOn
import HandS.ForMost
import HandS.ForExc
import HandS.Flow
import HandS.Wide
import HandS.IsInst
import HandS.ExcCtx
import HandS.HotCalls
import HandS.ExcInit
import HandS.ExcField
import HandS.ExcIs
import HandS.WrittenGet
import HandS.HeadHook4
import HandS.HeadEnd
import HandS.HeadWalk
import HandS.Head2
import HandS.Codes
import HandS.Steps
import HandS.SortInts
import HandS.ExcInitHot
import PySem.Challenge.RW_toldoutside_k25_depths_loads_and_fewest
set_option Elab.async false
set_option linter.all false
set_option maxRecDepth 100000
set_option maxHeartbeats 4000000
/-! CmA: operators that take any kind of value, own errors with an __init__, what a suite's callee sees of the error. -/
namespace L3
open PySem PySem.Spec PyProof.Rows L2

/-! ### operators by any values: one rule a sign, the value tells which way -/
section
variable {X : Cx}
/-- a + b: ints, new lists, texts, tuples -/
def rPlus (K : PySem.W.Frag) : R2 := fun x y H Q => rI0 (fun i j => .int (i + j)) x y H Q ∨ rCat x y H Q ∨ (∃ i j, x = .str i ∧ y = .str j ∧ i.length + j.length ≤ sizeLine ∧ Q (.str (i ++ j)) H)
theorem op_plus : OpR X (binaryOp .Add) (rPlus X.K) := OpR.or op_add (OpR.or op_cat op_add_str)
/-- a * b: wide ints, a list so many times -/
def rTimes : R2 := fun x y H Q => rI CMulW (fun i j => .int (i * j)) x y H Q ∨ rRep x y H Q
theorem op_times : OpR X (binaryOp .Mult) rTimes := OpR.or op_mulW op_rep
/-- a == b, a != b: scalars, data of any depth -/
def rSame (K : PySem.W.Frag) : R2 := fun x y H Q => rEq x y H Q ∨ rEqD K x y H Q
theorem op_same (hu : X.A.units + 64 < cLine) : OpR X (compareOp .Eq) (rSame X.K) := OpR.or op_eq (op_eqD hu)
def rOther (K : PySem.W.Frag) : R2 := fun x y H Q => rNe x y H Q ∨ rNeD K x y H Q
theorem op_other (hu : X.A.units + 64 < cLine) : OpR X (compareOp .NotEq) (rOther X.K) := OpR.or op_ne (op_neD hu)
/-- x[i] of a list, a tuple -/
def rAt (K : PySem.W.Frag) : R2 := fun x y H Q => rIxL K x y H Q ∨ rIxT K x y H Q
theorem ix_at : IxR X (rAt X.K) := IxR.or ix_list ix_tup
end
theorem hu64 {A : Around} {k : Nat} (hr : Room k A) : A.units + 64 < cLine := by have := hr.un; omega
theorem hu1 {A : Around} {k : Nat} (hr : Room k A) : A.units + 1 < cLine := by have := hr.un; omega
end L3
set_option maxRecDepth 100000
set_option maxHeartbeats 4000000
namespace L3
open PySem PySem.Spec PyProof.Rows L2

/-! ### C(e, ..) for an own error class with its own __init__, where the maker's context is None (nothing is handled) -/
theorem pmk_err {X : Cx} {CX : CXT} {x : Str} {e : Expr} {es : List Expr} {ta : TA} {p pos : Pos} {C fI : Addr} {k : Nat} {fd : FuncData} {ps : List Str} {sp : Sp} (T : OexC X.K C)
    (iC : PySem.W.findIn X.K (.ref C) "__init__" = some (some (.ref fI))) (tI : PySem.W.typeIn X.K (.ref fI) = some (.type "function"))
    (F1 : FnOk X.prog X.w X.K X.mg X.base CX k fI fd ps sp) (hr : Room (k + 1) X.A) (hb : Binds X.K fd ps []) (hx : Passes CX X (fun _ _ _ => False)) (hg : Gl X x) (hm : X.mg x = some (.ref C)) (ha : PA X (e :: es) ta)
    (hdb : (x == ("__debug__" : Str)) = false := by decide) (he : starEach (e :: es) X.env = (false, eval e X.env) :: starEach es X.env := by rfl) (hpl : (backTo pos (starEach es X.env)).any (·.1) = false := by rfl) :
    L2N.PMk X (.Call (.Name x p) (e :: es) [] pos) (tMkO C sp [] ta) := by
  intro pins s σ H Q I h
  have TC := T.cls
  obtain ⟨nm, q, N, bs, bm, sn, sub, ab, col, dd, k0, k1, k2, k3, k5, hC, hbm⟩ := TC
  refine wpAny_Call_Name_kw (ld_glob I hg hm ?_ hdb)
  have arg := ha.run pos pins s σ H _ I h
  refine PySem.W.callWith_K (h₀ := X.base) I.ok.mod.kin T.kC (thn arg fun us s1 hh => ?_) he hpl
  obtain ⟨vs, H1, I1, r1, hz, q1⟩ := hh
  refine ⟨I1.kIn, ?_⟩
  show wpAny _ _ (call (.ref C) us) _ _ _
  obtain ⟨hp, g, dr, tk, os⟩ := s1
  have below : hp.objs.size ≤ hp.objs.size + 1 := Nat.le_succ _
  have fresh : H1 (hp.objs.size + 1) = none := I1.hok.fresh below
  have wish := q1 (hp.objs.size + 1) fresh
  have old : ∀ b o, hp.get? b = some o → ((hp.push (PySem.W.kdv_tup us)).push (PySem.HandSPX.excO C hp.objs.size)).get? b = some o := fun b o e => Heap.get?_push_of_some _ (Heap.get?_push_of_some _ e)
  have there : ((hp.push (PySem.W.kdv_tup us)).push (PySem.HandSPX.excO C hp.objs.size)).get? (hp.objs.size + 1) = some (PySem.HandSPX.excO C hp.objs.size) := by heap_get
  have I2 : Inv X pins σ (upd H1 (hp.objs.size + 1) (exo (hp.objs.size + 1) C none)) ⟨(hp.push (PySem.W.kdv_tup us)).push (PySem.HandSPX.excO C hp.objs.size), g, dr, tk, os⟩ :=
    I1.laid (t' := tk) (a := hp.objs.size + 1) (o := exo (hp.objs.size + 1) C none) old below (exo_ok there)
  have r2 : Vals (V.ref (hp.objs.size + 1) :: (vs ++ [])) (Value.ref (hp.objs.size + 1) :: (us ++ [])) := .cons rfl (r1.append .nil)
  have len : (Value.ref (hp.objs.size + 1) :: us ++ []).length = ps.length := ((F1.len _ _ _ _ wish).symm.trans r2.length).symm
  have few : us.length ≤ sizeLine := by
    rw [← Paired.length r1, sizeLine_eq]
    omega
  have init := F1.run _ X.stack _ _ ⟨Value.ref (hp.objs.size + 1) :: us, []⟩ (Value.ref (hp.objs.size + 1) :: (us ++ [])) _ _ (fun _ _ _ => False) (hr.make C us []) (I2.env0.make C us [])
    (by have z := hb _ (Value.ref (hp.objs.size + 1) :: us) I2.kIn len; rw [List.cons_append] at z; exact z) r2 wish
  refine wpAny_call (PySem.HandSPX.call_own F.excBase_ValueError (fun Y => PySem.HandSPX.refsVE_contains Y bm hbm) (I1.kIn _ _ hC) (PySem.W.looks_findIn I1.kIn iC) (fun self => PySem.W.bind_fn I1.kIn self tI) few
    (codeAny_mono init fun r s' z => ?_))
  cases r with
  | error er => exact hx pins σ _ _ er s' I2 z
  | ok fl =>
    cases fl with
    | ret u =>
      obtain ⟨v, H2, os2, bare2, un2, hok2, rv, ev, d, fs, ea, ed, hd1, q2⟩ := z
      subst ev
      obtain ⟨h2, g2, d2, t2, os'⟩ := s'
      obtain ⟨t0, G, J, kG, ge, hoe, na⟩ := mk_end0 (d2 := d2) (t2 := t2) I1 below old un2 hok2 os2 bare2 ea ed hd1
      refine ⟨rv, ⟨hp.objs.size + 1, _, _, ⟨G, g2, d2, t2, os'⟩, _, .ref C, some d, rfl, J, kG, ge, hoe, ⟨rfl, rfl, fun vs hv => ?_⟩, rfl, rfl, na, rfl, bare2, raises_own T.exC T.tyC, q2⟩⟩
      cases hv
      rfl
    | next => exact z.elim
    | brk => exact z.elim
    | cont => exact z.elim

/-! ### a def called in a suite, the handled error p among its arguments: the promise may speak of p -/
abbrev SpP := Addr × Obj → Sp
structure FnP (P : Program) (w : World) (K : PySem.W.Frag) (mg : Str → Option Value) (base : Heap) (CX : CXT) (k : Nat) (f : Addr) (fd : FuncData) (ps : List Str) (sp : SpP) : Prop where
  len : ∀ p vs H Q E, sp p vs H Q E → vs.length = ps.length
  run : ∀ (p : Addr × Obj) (A : Around) (outer : List Env) (s : Shared) (H : Hp) (args : Args) (us : List Value) (vs : List V) (Q : VK) (E : XK), L2H.RoomH k A → L2H.Hot1 A p → L2H.PinOk outer H s p → Env0 P w K mg base A outer s H →
    BindsTo s fd args (ps.zip us) → Vals vs us → sp p vs H Q E → codeAny (model P w) A (.call (.ref f) args) (CR CX outer P w H s Q E) s
/-- a body by its reading, p at hand -/
theorem fnP_of {CX : CXT} {P : Program} {w : World} {K : PySem.W.Frag} {mg : Str → Option Value} {base : Heap} {k : Nat} {f : Addr} {name qual : Str} {params : Arguments} {body : List Stmt} {scope : Scope} {fd : FuncData} {N ps : List Str} {sp : SpP}
    (FD : FunD K name qual params body scope [] [] f fd) (S : FnScope N ps scope) (len : ∀ p vs H Q E, sp p vs H Q E → vs.length = ps.length)
    (hbody : ∀ (p : Addr × Obj) (cdv : Value) (A : Around) (outer : List Env) (s : Shared) (H : Hp) (vs : List V) (Q : VK) (E : XK), L2H.Hot1 A p → L2H.RoomH k (A.deeper (envOfC qual scope s.heap.objs.size f cdv)) → sp p vs H Q E →
      ∃ t, PSs (L2H.cxH CX P w K mg base N qual scope f cdv A outer s H E p) body t ∧ t { nx := fun _ H' => Q .non H', rt := Q } (L2.start N vs) H) :
    FnP P w K mg base CX (k + 1) f fd ps sp := by
  obtain ⟨oc, od, dV, kV, doc, pm, an, cdv, ct, osl, rfl, lk, hcd, _, _⟩ := FD.ex
  refine ⟨len, fun p A outer s H args us vs Q E hr hot hpin e0 hb r hsp => ?_⟩
  -- for this p alone the library's hot promise
  let sq : Sp := fun vs' H' Q' E' => vs' = vs ∧ H' = H ∧ Q' = Q ∧ E' = E
  have hl := len _ _ _ _ _ hsp
  have KX : K.In s.heap := e0.mod.kin.keeps fun b o e => (e0.bs b o e).1
  have lim : s.heap.NoLimit := e0.mod.nolimit.keeps fun b o e => (e0.bs b o e).1
  have kinds : ∀ y ∈ ps.zip us, scope.names.lookup y.1 = some .local ∨ (scope.names.lookup y.1 = some .cell ∧ ((cellsFrom (s.heap.objs.size + 1) scope.names []).lookup y.1).isSome = true) := fun ⟨n, v⟩ hy =>
    (S.par n (List.of_mem_zip hy).1).elim Or.inl fun q => Or.inr ⟨q, PySem.W.cellsFrom_some _ _ _ (Or.inl q)⟩
  refine codeAny_call_function hr.depth (KX _ _ lk) rfl S.co S.gen rfl (PySem.W.codeRec_of KX hcd) (hb _ _ _ _ ?_)
  refine wpAny_newFunctionEnv_cells S.kind kinds fun env he s1 x => ?_
  subst he
  refine ⟨lim.keeps x.toInCall.keep, codeAny_func ?_⟩
  obtain ⟨t, ht, hq⟩ := hbody p cdv A outer s H vs Q E hot (hr.deeper _) hsp
  have I := L2H.inv_startH (CX := CX) (E := E) S hpin e0 hl r x
  refine wpAny_mono (ht.run [] s1 (L2.start N vs) H _ I hq) (fun fl s' hs => ?_) fun e s' hs => hs
  cases fl with
  | ret u =>
    obtain ⟨v, σ', H', J, rv, q⟩ := hs
    exact ⟨v, H', J.os, J.bare, J.base, J.hok, rv, q⟩
  | next =>
    obtain ⟨σ', H', J, q⟩ := hs
    exact ⟨V.non, H', J.os, J.bare, J.base, J.hok, rfl, q⟩
  | brk =>
    obtain ⟨_, _, _, q⟩ := hs
    exact q.elim
  | cont =>
    obtain ⟨_, _, _, q⟩ := hs
    exact q.elim
/-- the call in the suite: f(e, ..), the error's object known -/
theorem pe_callP {X : Cx} {CX : CXT} {k : Nat} {f : Addr} {fd : FuncData} {ps : List Str} {sp : SpP} {E : L2.St → XK} {x : Str} {q pos : Pos} {e : Expr} {es : List Expr} {t : TA} {p : Addr × Obj}
    (FP : FnP X.prog X.w X.K X.mg X.base CX k f fd ps sp) (hr : L2H.RoomH k X.A) (hot : L2H.Hot1 X.A p) (hp : p ∈ X.pn) (hg : Gl X x) (hm : X.mg x = some (.ref f)) (hk : PySem.W.keepIn X.K (.ref f) = true) (hb : Binds X.K fd ps [])
    (hx : ∀ σ, PassesAt CX X σ (E σ)) (ha : PA X (e :: es) t) (hdb : (x == ("__debug__" : Str)) = false := by decide) (he : starEach (e :: es) X.env = (false, eval e X.env) :: starEach es X.env := by rfl)
    (hpl : (backTo pos (starEach es X.env)).any (·.1) = false := by rfl) : PE X (.Call (.Name x q) (e :: es) [] pos) (tCallS (sp p) E t) := by
  refine ⟨fun pins s σ H Q I h => ?_⟩
  refine wpAny_Call_Name_kw (ld_glob I hg hm ?_ hdb)
  refine PySem.W.callWith_K (h₀ := X.base) I.ok.mod.kin hk (thn (ha.run pos pins s σ H _ I h) fun us s1 hh => ?_) he hpl
  obtain ⟨vs, H1, I1, r, w⟩ := hh
  refine ⟨I1.kIn, ?_⟩
  have hl : us.length = ps.length := r.length.symm.trans (FP.len _ _ _ _ _ w)
  have b := hb s1 us I1.kIn (by rw [List.append_nil]; exact hl)
  rw [List.append_nil] at b
  have P1 := I1.pin p (List.mem_append_left _ hp)
  have hpin : L2H.PinOk X.stack H1 s1 p := ⟨P1.1, P1.2.1, fun hm => (List.mem_cons.mp (I1.stkSub p.1 hm)).elim P1.2.2.1 P1.2.2.2.1, P1.2.2.2.2⟩
  refine wpAny_call (codeAny_mono (FP.run p X.A X.stack s1 H1 ⟨us, []⟩ us vs Q (E σ) hr hot hpin I1.env0 b r w) fun r s' hq => ?_)
  cases r with
  | error e => exact hx σ pins H1 s1 e s' I1 hq
  | ok fl =>
    cases fl with
    | ret u => exact I1.after hq
    | next => exact hq.elim
    | brk => exact hq.elim
    | cont => exact hq.elim
end L3
namespace PySem.W
open PySem PySem.Spec PySem.Calls PyProof.Rows
section
variable {prog : Program} {w : World} {A : Around} {E : Value → Shared → Prop} {s : Shared} {K : Frag} {x D : Addr} {ox od : Obj}
/-- e.__class__ of an error of an own class that has a dict -/
theorem errClass {Q : Option Value → Shared → Prop} (C : L2.ExcC K D) (X : K.In s.heap) (I : InstAt s.heap x ox D (some od)) (h : Q (some (.ref D)) { s with toks := s.toks + 1 }) :
    wpAny (model prog w) A (getAttr? (.ref x) "__class__") Q E s := by
  have some_cls : (clsIn K D).isSome = true := by
    obtain ⟨cd, hc, _⟩ := any_some C.hd
    rw [hc]
    rfl
  have fnd : findObj K D (some od) "__class__" = some (.bind (.builtin "getset_descriptor.__get__") (.builtin "object.__class__")) := findObj_data some_cls C.ha C.hn C.ht
  obtain ⟨hp, g, d, t, os⟩ := s
  have T0 := I.type (M := model prog w)
  have T1 := looks_findIn (M := model prog w) X C.hg
  have T2 := looks_findIn (M := model prog w) X C.hk
  have T3 := looks_find (M := model prog w) X I fnd
  have isB : Looks (model prog w) hp (isInstance (.ref x) (.type "BaseException")) true := T0.andThen (looks_subIn X C.hs)
  have n0 : (false && onTheHeap (Value.builtin "BaseException.__getattribute__")) = false := rfl
  have n2 : (Value.builtin "BaseException.__getattribute__" == Value.builtin "object.__getattribute__") = false := by decide +kernel
  have n1 : (onTheHeap (Value.ref D) && Value.builtin "BaseException.__getattribute__" == Value.builtin "object.__getattribute__") = false := by rw [n2]; rfl
  unfold getAttr? getAttrBy? getAttrBy
  refine wpAny_bind (wpAny_mkText (wpAny_bind (wpAny_attempt (wpAny_holding (wpAny_bind (T0.at (wpAny_bind (T1.at ?_))))))))
  show wpAny _ _ (if (onTheHeap (Value.ref D) && Value.builtin "BaseException.__getattribute__" == Value.builtin "object.__getattribute__") = true then _ else _) _ _ _
  rw [n1, if_neg Bool.false_ne_true]
  unfold getAttrByItsOwn hookBefore
  refine wpAny_bind ?_
  rw [if_pos (show onTheHeap (Value.ref D) = true from rfl)]
  refine T2.at (wpAny_bind (wpAny_attempt (wpAny_holding ?_)))
  unfold callGetattribute
  rw [n0, if_neg Bool.false_ne_true]
  unfold boundAndCalled
  rw [PySem.F.excAttr_ValueError.ga.bind (.ref x)]
  refine wpAny_bind (wpAny_pure ?_)
  show wpAny _ _ (call (.builtin "BaseException.__getattribute__") [.ref x, .str "__class__" t]) _ _ _
  refine wpAny_call (codeAny_call_builtin PySem.F.excAttr_ValueError.ga.plain PySem.F.entry_bexc_ga (@check_slot (model prog w) _ _ ⟨hp, g, d, t + 1, os⟩ "BaseException.__getattribute__" "BaseException" "__getattribute__" (.ref x) [.str "__class__" t] [] _
    (by decide +kernel) (by decide +kernel) isB (PySem.F.args_bexc_ga (.ref x) (.str "__class__" t)) ?_))
  unfold Builtin.«object.__getattribute__»
  refine wpAny_bind (wpAny_of_eq (a := ((Value.ref x : Value), [Value.str "__class__" t])) (by first | rfl | (simp only [slotArgs]; rfl)) (wpAny_bind (wpAny_pure (wpAny_bind (T0.at (wpAny_bind (T3.at ?_)))))))
  show wpAny _ _ (holding [Value.builtin "object.__class__"] (call (.builtin "getset_descriptor.__get__") [.builtin "object.__class__", .ref x, .ref D]) >>= ret) _ _ _
  refine wpAny_bind (wpAny_holding (wpAny_call (class_get (s := ⟨hp, g, d, t + 1, os⟩) (ox := ox) (od := some od) X I C.hm (wpAny_pure ?_))))
  show wpAny _ _ (handedOut (.ref D)) _ _ _
  rw [handedOut_of (v := .ref D) rfl]
  first
    | exact wpAny_pure (wpAny_pure h)
    | exact wpAny_pure h
    | exact wpAny_pure (wpAny_bind (wpAny_pure (wpAny_pure h)))
theorem errKit (C : L2.ExcC K D) : KitX K (.ref x) (.ref D) (fun h => ∃ ox od, InstAt h x ox D (some od)) where
  ty := fun _ _ _ ⟨_, _, I⟩ => I.type
  it := fun _ _ X _ => by
    obtain ⟨cd, hc, _⟩ := any_some C.hd
    unfold clsIn at hc
    split at hc
    · rename_i c' d' cd' sl' ho
      intro A' Q' E' s' k q
      unfold isType loadHead
      exact wpAny_bind (wpAny_loadPart (k _ _ (X _ _ ho)) (wpAny_pure q))
    · cases hc
  ne := fun h tp dd its n sl X htp => by
    obtain ⟨cd, hc, _⟩ := any_some C.hd
    refine Bool.eq_false_iff.mpr fun q => ?_
    have e : D = tp := Value.ref.inj (beq_iff_eq.mp q)
    subst e
    unfold clsIn at hc
    split at hc
    · rename_i c' d' cd' sl' ho
      cases (X _ _ ho).symm.trans htp
    · cases hc
  ca := fun X ⟨_, _, I⟩ k => errClass C X I k
end
end PySem.W
namespace L3
open PySem PySem.Spec PyProof.Rows L2
/-- isinstance(e, c), e the pinned error with its dict at dd -/
def rIsP (K : PySem.W.Frag) (D a dd : Addr) : List V → Hp → VK → Prop := fun xs H Q => ∃ (c : V) (cv : Value) (b : Bool) (fs : List (Str × V)), xs = [.ref a, c] ∧ H dd = some (.xd fs) ∧ (∀ u, RelV c u → u = cv) ∧ PySem.W.kitOne K (.ref D) cv = some b ∧ Q (.bl b) H
theorem call_isP {X : Cx} {a D dd : Addr} {oe : Obj} (C : ExcC X.K D) (hz : oe.cls = .ref D ∧ oe.dict = some dd) (hf : ∃ vs, oe.data = .fields vs) (hp : (a, oe) ∈ X.pn) : CallR X (.builtin "isinstance") (rIsP X.K D a dd) := by
  intro pins s σ H xs us Q I r h
  obtain ⟨c, cv, b, fs, rfl, ed, hcv, e, q⟩ := h
  cases r with
  | cons rx rr =>
    cases rr with
    | cons rt rr =>
      cases rr
      cases rx
      have ec := hcv _ rt
      subst ec
      obtain ⟨hget, _⟩ := I.pin (a, oe) (List.mem_append.mpr (.inl hp))
      have hx : ObjOk X.prog X.w H s.heap dd (.xd fs) := I.hok dd _ ed
      obtain ⟨mA, hns, hr⟩ := hx
      obtain ⟨od, ho, _⟩ := lookIn_ns hns
      obtain ⟨vs, hv⟩ := hf
      have J : PySem.W.InstAt s.heap a oe D (some od) := by
        obtain ⟨oc, odd, oda, osl⟩ := oe
        obtain ⟨h1, h2⟩ := hz
        dsimp only at h1 h2 hv
        subst h1 h2 hv
        exact ⟨hget, rfl, rfl, ho⟩
      refine PySem.W.kia_one (H := fun h => ∃ ox od, PySem.W.InstAt h a ox D (some od)) (PySem.W.errKit C) I.kIn ⟨_, _, J⟩ e (fun z => nomatch z) fun tk => ⟨.bl b, H, I.kept (t' := tk) fun _ _ z => z, rfl, q⟩
/-- e.f of the pinned error -/
def tXp (D a dd : Addr) (f : Str) (te : TE) : TE := fun σ H Q => te σ H fun x H1 => x = .ref a ∧ ∃ (fs : List (Str × V)) (v : V), H1 dd = some (.xd fs) ∧ fs.lookup f = some v ∧ Q v H1
theorem pe_xp {X : Cx} {a D dd : Addr} {oe : Obj} {e : Expr} {te : TE} {pos : Pos} {n : Str} (T : XfC X.K D) (hno : PySem.W.findIn X.K (.ref D) n = some none) (hz : oe.cls = .ref D ∧ oe.dict = some dd) (hf : ∃ vs, oe.data = .fields vs) (hp : (a, oe) ∈ X.pn)
    (he : PE X e te) (hb : attributeBase e n X.env (eval e X.env) = eval e X.env := by rfl) : PE X (.Attribute e n pos) (tXp D a dd n te) := by
  refine ⟨fun pins s σ H Q I h => attr_of hb (thn (he.run pins s σ H _ I h) fun u s1 hh => ?_)⟩
  obtain ⟨x, H1, I1, rx, ex, fs, v, ea, l, q⟩ := hh
  subst ex
  obtain rfl : u = Value.ref a := rx
  obtain ⟨ha, _⟩ := I1.pin (a, oe) (List.mem_append_left _ hp)
  obtain ⟨vs, hd⟩ := hf
  have hx : ObjOk X.prog X.w H1 s1.heap dd (.xd fs) := I1.hok dd _ ea
  obtain ⟨mA, hns, hr⟩ := hx
  obtain ⟨od, ho, hl⟩ := lookIn_ns hns
  obtain ⟨u, hu, ru⟩ := RelO.some_of (v := v) (o := mA n) (by rw [← l]; exact hr n)
  have J : PySem.W.InstAt s1.heap a oe D (some od) := ⟨ha, hz.1, by unfold PySem.W.notCls; rw [hd] <;> rfl, by rw [hz.2]; exact ho⟩
  exact HandSPX.exc_get I1.kIn J T.ga T.gg T.exC (PySem.W.findObj_own T.hdC hno rfl (by rw [hl, hu])) (handed_of ru) ⟨v, H1, I1.tok _, ru, q⟩
end L3
set_option maxRecDepth 100000
set_option maxHeartbeats 4000000
/-! CmC: what the head tells of the error classes and of the table of bounds. -/
namespace L3
open PySem PySem.Spec PyProof.Rows L2 He

def oexB (K : PySem.W.Frag) (C : Addr) : Bool := (match K.lookup C with
  | some ⟨.type t, _, .cls cd, sl⟩ => (match cd.mro, sl.toList with
    | .ref C' :: bm, [_, _, _, _, some (.builtin n), _] => decide (t = "type") && (decide (C' = C) && (decide (n = "ValueError.__new__") && (!cd.hasDel && (cd.hasDict && PySem.HandSPX.refsVE bm))))
    | _, _ => false)
  | _ => false) && (eqO (PySem.W.findIn K (.ref C) "__setattr__") (some (some (.builtin "object.__setattr__"))) && (decide (PySem.W.subIn K (.ref C) (.type "BaseException") = some true) &&
    (decide (PySem.W.typeIn K (.ref C) = some (.type "type")) && PySem.W.keepIn K (.ref C))))
theorem oexB_ok {K : PySem.W.Frag} {C : Addr} (h : oexB K C = true) : OexC K C := by
  obtain ⟨h0, h⟩ := ba h
  obtain ⟨h1, h⟩ := ba h
  obtain ⟨h2, h⟩ := ba h
  obtain ⟨h3, h4⟩ := ba h
  refine ⟨?_, eqO_ok h1, of_decide_eq_true h2, of_decide_eq_true h3, h4⟩
  split at h0
  · rename_i t dd cd sl ho
    split at h0
    · rename_i C' bm k0 k1 k2 k3 n k5 hm hs
      obtain ⟨e1, h0⟩ := ba h0
      obtain ⟨e2, h0⟩ := ba h0
      obtain ⟨e3, h0⟩ := ba h0
      obtain ⟨e4, h0⟩ := ba h0
      obtain ⟨e5, e6⟩ := ba h0
      have e1 := of_decide_eq_true e1
      have e2 := of_decide_eq_true e2
      have e3 := of_decide_eq_true e3
      subst e1 e2 e3
      obtain ⟨nm, bs, mro, ns, qn, hd, sn, sub, ab, col, del⟩ := cd
      dsimp only at hm e4 e5
      subst hm e5
      have hdel : del = false := by cases del <;> first | rfl | cases e4
      subst hdel
      have hsl : sl = #[k0, k1, k2, k3, some (.builtin "ValueError.__new__"), k5] := by
        have : sl.toList.toArray = [k0, k1, k2, k3, some (.builtin "ValueError.__new__"), k5].toArray := congrArg List.toArray hs
        simpa using this
      subst hsl
      exact ⟨nm, qn, ns, bs, bm, sn, sub, ab, col, dd, k0, k1, k2, k3, k5, ho, e6⟩
    · cases h0
  · cases h0
def excB (K : PySem.W.Frag) (D : Addr) : Bool := xfB K D && (eqO (PySem.W.findIn K (.ref D) "__class__") (some (some (.builtin "object.__class__"))) &&
  (eqO (PySem.W.specialIn K (.builtin "object.__class__") "__get__") (some (some (.builtin "getset_descriptor.__get__"))) && (decide (PySem.W.takesIn K (.builtin "object.__class__") = some true) && decide (PySem.W.mroIn K D (.type "object") = some true))))
theorem excB_ok {K : PySem.W.Frag} {D : Addr} (h : excB K D = true) : ExcC K D ∧ XfC K D := by
  obtain ⟨h0, h⟩ := ba h
  obtain ⟨h1, h⟩ := ba h
  obtain ⟨h2, h⟩ := ba h
  obtain ⟨h3, h4⟩ := ba h
  have X := xfB_ok h0
  exact ⟨⟨X.ga, X.gg, X.exC, X.hdC, eqO_ok h1, eqO_ok h2, of_decide_eq_true h3, of_decide_eq_true h4⟩, X⟩
/-- an error class x of the text, its __init__ stores the names fs -/
structure ErrC (K : PySem.W.Frag) (x : Str) (fs : List Str) : Prop where
  o : OexC K (ga K x)
  e : ExcC K (ga K x)
  f : XfC K (ga K x)
  no : ∀ y ∈ fs, PySem.W.findIn K (.ref (ga K x)) y = some none
  iC : PySem.W.findIn K (.ref (ga K x)) "__init__" = some (some (.ref (ma K (ga K x) "__init__")))
  tI : PySem.W.typeIn K (.ref (ma K (ga K x) "__init__")) = some (.type "function")
def errB (K : PySem.W.Frag) (x : Str) (fs : List Str) : Bool := oexB K (ga K x) && (excB K (ga K x) && ((fs.all fun y => eqO (PySem.W.findIn K (.ref (ga K x)) y) (some none)) &&
  (eqO (PySem.W.findIn K (.ref (ga K x)) "__init__") (some (some (.ref (ma K (ga K x) "__init__")))) && decide (PySem.W.typeIn K (.ref (ma K (ga K x) "__init__")) = some (.type "function")))))
theorem errB_ok {K : PySem.W.Frag} {x : Str} {fs : List Str} (h : errB K x fs = true) : ErrC K x fs := by
  obtain ⟨h1, h⟩ := ba h
  obtain ⟨h2, h⟩ := ba h
  obtain ⟨h3, h⟩ := ba h
  obtain ⟨h4, h5⟩ := ba h
  obtain ⟨a, b⟩ := excB_ok h2
  exact ⟨oexB_ok h1, a, b, fun y hy => eqO_ok (List.all_eq_true.mp h3 y hy), eqO_ok h4, of_decide_eq_true h5⟩
/-- which error is of which class -/
def kitXB (K : PySem.W.Frag) (x y : Str) (b : Bool) : Bool := decide (PySem.W.kitOne K (.ref (ga K x)) (.ref (ga K y)) = some b)
def kitsB (K : PySem.W.Frag) (base : Str) (xs : List Str) : Bool := xs.all fun x => (xs.all fun y => kitXB K x y (decide (x = y))) && (kitXB K x base true && (decide (PySem.W.kitOne K (.ref (ga K x)) (.type "ValueError") = some true) &&
  decide (PySem.W.exmOne K (.ref (ga K x)) (.ref (ga K base)) = some true)))
structure Kits (K : PySem.W.Frag) (base : Str) (xs : List Str) : Prop where
  kit : ∀ x ∈ xs, ∀ y ∈ xs, PySem.W.kitOne K (.ref (ga K x)) (.ref (ga K y)) = some (decide (x = y))
  kitO : ∀ x ∈ xs, PySem.W.kitOne K (.ref (ga K x)) (.ref (ga K base)) = some true
  kitV : ∀ x ∈ xs, PySem.W.kitOne K (.ref (ga K x)) (.type "ValueError") = some true
  exm : ∀ x ∈ xs, PySem.W.exmOne K (.ref (ga K x)) (.ref (ga K base)) = some true
theorem kitsB_ok {K : PySem.W.Frag} {base : Str} {xs : List Str} (h : kitsB K base xs = true) : Kits K base xs := by
  have key := fun x hx => ba (List.all_eq_true.mp h x hx)
  refine ⟨fun x hx y hy => of_decide_eq_true (List.all_eq_true.mp (key x hx).1 y hy), fun x hx => of_decide_eq_true (ba (key x hx).2).1, fun x hx => of_decide_eq_true (ba (ba (key x hx).2).2).1, fun x hx => of_decide_eq_true (ba (ba (key x hx).2).2).2⟩
/-- a table of the top with text keys and ints -/
def tabB (K : PySem.W.Frag) (x : Str) (kvs : List (Str × Int)) : Bool := valsB K (ga K x) (kvs.map fun q => (q.1, Dv.int q.2))
theorem tabB_ok {K : PySem.W.Frag} {w : World} {x : Str} {kvs : List (Str × Int)} {es : Array DictEntry} {n : Nat} (h : tabB K x kvs = true) (D : KDict K w (ga K x) es n) {k : Str} {i : Int} (hq : (k, i) ∈ kvs) : KDct K w (ga K x) k (.int i) := by
  obtain ⟨u, hu, ru⟩ := valsB_ok h (q := (k, Dv.int i)) (List.mem_map.mpr ⟨(k, i), hq, rfl⟩)
  exact ⟨es, n, u, D.at_, D.lit, hu, ru⟩
end L3
namespace L3
open PySem PySem.Spec PyProof.Rows L2
/-- a law's promise: a list of at most 63 ints in, True out -/
def spLaw (K : PySem.W.Frag) : Sp := fun vs H Q _ => ∃ (a : Addr) (ns : List Int), vs = [.ref a] ∧ SqL K H a (ns.map V.int) ∧ ns.length ≤ 63 ∧ ∀ H', Q (.bl true) H'
theorem walk_law {l : PySem.W.OpenLaw} {k : Nat} {q : Program} {loose : List Str} {XP : (Str → Option Value) → Heap → Prop} {YP : World → Heap → Prop} {d : DefRec} (hn : l.most = some 63) (hdf : d.params.defaults = []) (hr : Room k callerA)
    (F : ∀ (w : World) (mg : Str → Option Value) (fa : Addr) (h : Heap), YP w h → h.Ns mainGlobals mg → mg d.name = some (.ref fa) →
      ∃ (K : PySem.W.Frag) (fd : FuncData), K.In h ∧ (∀ (s : Shared) (u : Value), BindsTo s fd ⟨[u], []⟩ [("script", u)]) ∧
        ∀ base : Heap, K.In base → base.Ns mainGlobals mg → FnOk l.prog w K mg base (L2N.CX l.prog w) k fa fd ["script"] (spLaw K)) :
    PySem.W.WalkO q loose XP YP l.row.toRowW d [] (fun f vs => PySem.call f vs) := by
  refine Att.attach_call hn hdf fun w s₀ s₁ mg mb fa o pm cd doc a vs ns G Y ho hd hcd hmg hobj hints hlen hg => ?_
  obtain ⟨K, fd, KX, hb, hF⟩ := F w mg fa _ Y G.T.g hmg
  refine law_call KX G.T.g G.T.b G.T.builtins G.T.nolimit hg hobj hints (Nat.le_trans hlen (by decide)) hr hF hb (fun H hO hS => ⟨a, ns, rfl, hS, hlen, fun _ => rfl⟩) fun H e s' z => ?_
  obtain ⟨_, _, _, _, _, _, _, _, _, _, _, _, z⟩ := z
  exact z
theorem cx_none {P : Program} {w : World} {l : List Env} {H : Hp} {s : Shared} {e : Value} {s' : Shared} (z : L2N.CX P w l H s (fun _ _ _ => False) e s') : False := by
  obtain ⟨_, _, _, _, _, _, _, _, _, _, _, _, z⟩ := z
  exact z
end L3
set_option maxRecDepth 100000
set_option maxHeartbeats 4000000
/-! CmD: defs as callees, readings step by step. -/
namespace L3
open PySem PySem.Spec PyProof.Rows L2 He

/-! ### a def of the module that keeps a promise -/
structure CalG (P : Program) (w : World) (K : PySem.W.Frag) (mg : Str → Option Value) (base : Heap) (k : Nat) (x : Str) (ps : List Str) (sp : Sp) : Prop where
  g : mg x = some (.ref (ga K x))
  ok : ∃ fd, FnOk P w K mg base (L2N.CX P w) k (ga K x) fd ps sp ∧ Binds K fd ps []
  kp : PySem.W.keepIn K (.ref (ga K x)) = true
theorem CalG.imp {P : Program} {w : World} {K : PySem.W.Frag} {mg : Str → Option Value} {base : Heap} {k : Nat} {x : Str} {ps : List Str} {sp sp' : Sp} (c : CalG P w K mg base k x ps sp) (h : ∀ vs H Q E, sp' vs H Q E → sp vs H Q E) : CalG P w K mg base k x ps sp' := by
  obtain ⟨fd, F, b⟩ := c.ok
  exact ⟨c.g, ⟨fd, F.imp h, b⟩, c.kp⟩
theorem CalG.mono {P : Program} {w : World} {K : PySem.W.Frag} {mg : Str → Option Value} {base : Heap} {j k : Nat} {x : Str} {ps : List Str} {sp : Sp} (c : CalG P w K mg base j x ps sp) (h : j ≤ k) : CalG P w K mg base k x ps sp := by
  obtain ⟨fd, F, b⟩ := c.ok
  exact ⟨c.g, ⟨fd, F.mono h, b⟩, c.kp⟩
section
variable {P : Program} {w : World} {K : PySem.W.Frag} {mg : Str → Option Value} {base : Heap}
/-- a def keeps its promise: its body's rules and their reading -/
theorem calG_of {x : Str} {st : Stmt} {N ps : List Str} {k : Nat} {sp : Sp} (hg : mg x = some (.ref (ga K x))) (D : ∃ fd, FunD K x x (defArgs st) (defBody st) (defScope st) [] [] (ga K x) fd) (S : FnScope N ps (defScope st))
    (hb : ∀ (dV kV doc pm : Value) (an : Option Addr) (cdv ct : Value) (us : List Value), us.length = ps.length → bindArgs (PySem.W.fnOf x x (defArgs st) (defBody st) (defScope st) .none kV doc pm an cdv ct) ⟨us, []⟩ = pure (ps.zip us))
    (len : ∀ vs H Q E, sp vs H Q E → vs.length = ps.length)
    (hbody : ∀ (cdv : Value) (A : Around) (outer : List Env) (s : Shared) (H : Hp) (vs : List V) (Q : VK) (E : XK), Room k (A.deeper (envOfC x (defScope st) s.heap.objs.size (ga K x) cdv)) → sp vs H Q E →
      ∃ t, PSs (cxOf (L2N.CX P w) P w K mg base N x (defScope st) (ga K x) cdv A outer s H E) (defBody st) t ∧ t { nx := fun _ H' => Q .non H', rt := Q } (start N vs) H) : CalG P w K mg base (k + 1) x ps sp := by
  obtain ⟨fd, F⟩ := D
  exact ⟨hg, ⟨fd, F.ok S len hbody, F.bindsN fun kV doc pm an cdv ct us hl => hb .none kV doc pm an cdv ct us hl⟩, F.kp⟩
end
section
variable {X : Cx} {W : L2.WX}
/-- x(e, ..) of such a def; what it raises is wished by W -/
theorem pe_cal {k j : Nat} {x : Str} {ps : List Str} {sp : Sp} {q pos : Pos} {e : Expr} {es : List Expr} {t : TA} (c : CalG X.prog X.w X.K X.mg X.base j x ps sp) (hr : Room k X.A) (hj : j ≤ k) (hx : ∀ σ, PassesAt (L2N.CX X.prog X.w) X σ (WE W σ)) (ha : PA X (e :: es) t) (hg : Gl X x := by rfl)
    (hdb : (x == ("__debug__" : Str)) = false := by decide) (he : starEach (e :: es) X.env = (false, eval e X.env) :: starEach es X.env := by rfl) (hpl : (backTo pos (starEach es X.env)).any (·.1) = false := by rfl) :
    PE X (.Call (.Name x q) (e :: es) [] pos) (tCallS sp (WE W) t) := by
  have z : ∃ fd, FnOk X.prog X.w X.K X.mg X.base (L2N.CX X.prog X.w) j (ga X.K x) fd ps sp ∧ Binds X.K fd ps [] := c.ok
  have key := Classical.choose_spec z
  exact pe_callS key.1 (hr.mono hj) hg c.g c.kp key.2 hx ha hdb he hpl
/-- nothing is let out -/
theorem passN (σ : L2.St) : PassesAt (L2N.CX X.prog X.w) X σ (WE (fun _ _ _ _ => False) σ) := fun _ _ _ e s' I c => by
  obtain ⟨_, _, _, _, _, _, _, _, _, _, _, _, z⟩ := c
  exact z.elim
theorem pe_gl {x : Str} {pos : Pos} {a : Addr} (hm : X.mg x = some (.ref a)) (hg : Gl X x := by rfl) (hdb : (x == ("__debug__" : Str)) = false := by decide) : PE X (.Name x pos) (tC (.ref a)) :=
  pe_glob hg hm rfl hdb
end

/-! ### readings, step by step: each from what is asked next -/
section
variable {σ σ' : L2.St} {H : Hp} {Q : VK} {D : Ends} {t u : TS} {te ta tb : TE} {g : TG} {v x y : V} {K : PySem.W.Frag}
variable {nx bk ct : L2.St → Hp → Prop} {rt : VK}
theorem r_seq (k : t ⟨u ⟨nx, rt, bk, ct⟩, rt, bk, ct⟩ σ H) : tSeq t u ⟨nx, rt, bk, ct⟩ σ H := k
theorem r_asgN {i : Nat} (k : te σ H fun x H1 => nx (σ.set i (some x)) H1) : tAsg te (gName i) ⟨nx, rt, bk, ct⟩ σ H := k
theorem r_asg (k : te σ H fun x H1 => g x σ H1 nx) : tAsg te g ⟨nx, rt, bk, ct⟩ σ H := k
theorem r_ret (k : te σ H rt) : tRet te ⟨nx, rt, bk, ct⟩ σ H := k
theorem r_retN (k : rt .non H) : tRetN ⟨nx, rt, bk, ct⟩ σ H := k
theorem r_next (k : nx σ H) : tNext ⟨nx, rt, bk, ct⟩ σ H := k
theorem r_brk (k : bk σ H) : tBreak ⟨nx, rt, bk, ct⟩ σ H := k
theorem r_cont (k : ct σ H) : tCont ⟨nx, rt, bk, ct⟩ σ H := k
theorem r_drop (k : te σ H fun _ H1 => nx σ H1) : tDrop te ⟨nx, rt, bk, ct⟩ σ H := k
theorem r_aug {i : Nat} {ti : TIp} (e : σ[i]? = some (some x)) (k : te σ H fun y H1 => ti x y H1 fun z H2 => nx (σ.set i (some z)) H2) : tAug i te ti ⟨nx, rt, bk, ct⟩ σ H := ⟨x, e, k⟩
theorem r_augS {to ti : TE} {tget : V → V → Hp → VK → Prop} {tip : TIp} {tset : TSet} (k : to σ H fun o H1 => ti σ H1 fun i H2 => tget o i H2 fun x H3 => te σ H3 fun y H4 => tip x y H4 fun z H5 => tset o i z H5 fun H6 => nx σ H6) :
    tAugS to ti te tget tip tset ⟨nx, rt, bk, ct⟩ σ H := k
theorem r_sub {to ti : TE} {ts : TSet} {P : L2.St → Hp → Prop} (k : to σ H fun o H1 => ti σ H1 fun i H2 => ts o i v H2 fun H3 => P σ H3) : gSub to ti ts v σ H P := k
theorem r_ifS {c : TT} (k : c σ H fun b H1 => if b = true then t D σ H1 else u D σ H1) : tIfS c t u D σ H := k
theorem r_if {c : TT} (k : c σ H fun b H1 => if b = true then ta σ H1 Q else tb σ H1 Q) : tIf c ta tb σ H Q := k
theorem r_var {i : Nat} (e : σ[i]? = some (some v)) (k : Q v H) : tVar i σ H Q := ⟨v, e, k⟩
theorem r_c (k : Q v H) : tC v σ H Q := k
theorem r_op {r : R2} (k : ta σ H fun x H1 => tb σ H1 fun y H2 => r x y H2 Q) : tOp r ta tb σ H Q := k
theorem r_un {r : V → Hp → VK → Prop} (k : ta σ H fun x H1 => r x H1 Q) : tUn r ta σ H Q := k
theorem r_test {P : Bool → Hp → Prop} (k : te σ H fun x H' => ∃ k, x = .bl k ∧ P k H') : tTest te σ H P := k
theorem r_B {P : Bool → Hp → Prop} (k : te σ H fun x H1 => ∃ c, x = .bl c ∧ P c H1) : tB te σ H P := k
theorem r_bl {b : Bool} {P : Bool → Prop} (k : P b) : ∃ c, V.bl b = .bl c ∧ P c := ⟨b, rfl, k⟩
theorem r_and {c d : TT} {P : Bool → Hp → Prop} (k : c σ H fun b H1 => if b = true then d σ H1 P else P false H1) : tAnd c d σ H P := k
theorem r_or {c d : TT} {P : Bool → Hp → Prop} (k : c σ H fun b H1 => if b = true then P true H1 else d σ H1 P) : tOr c d σ H P := k
theorem r_not {c : TT} {P : Bool → Hp → Prop} (k : c σ H fun b H1 => P (!b) H1) : tNot c σ H P := k
theorem r_andV (k : ta σ H fun x H1 => ∃ c, x = .bl c ∧ if c = true then tb σ H1 Q else Q (.bl false) H1) : tAndV ta tb σ H Q := k
theorem r_orV (k : ta σ H fun x H1 => ∃ c, x = .bl c ∧ if c = true then Q (.bl true) H1 else tb σ H1 Q) : tOrV ta tb σ H Q := k
theorem r_notV (k : ta σ H fun x H1 => ∃ c, x = .bl c ∧ Q (.bl (!c)) H1) : tNotV ta σ H Q := k
theorem r_nil {P : List V → Hp → Prop} (k : P [] H) : tNil σ H P := k
theorem r_cons {ta : TE} {tr : TA} {P : List V → Hp → Prop} (k : ta σ H fun x H1 => tr σ H1 fun xs H2 => P (x :: xs) H2) : tCons ta tr σ H P := k
theorem r_cb {r : List V → Hp → VK → Prop} {ta : TA} (k : ta σ H fun vs H1 => r vs H1 Q) : tCB r ta σ H Q := k
theorem r_callS {sp : Sp} {E : L2.St → XK} {ta : TA} (k : ta σ H fun vs H1 => sp vs H1 Q (E σ)) : tCallS sp E ta σ H Q := k
def NewL (xs : List V) (H1 : Hp) (Q : VK) : Prop := xs.length ≤ sizeLine ∧ ∀ p, H1 p = none → Q (.ref p) (upd H1 p (.lst xs))
def NewT (xs : List V) (H1 : Hp) (Q : VK) : Prop := xs.length ≤ sizeLine ∧ ∀ p, H1 p = none → Q (.ref p) (upd H1 p (.tup xs))
theorem r_tup {ta : TA} (k : ta σ H fun xs H1 => NewT xs H1 Q) : tTup ta σ H Q := k
theorem r_lst {ta : TA} (k : ta σ H fun xs H1 => NewL xs H1 Q) : tLst ta σ H Q := k
theorem r_bm {T : String} {r : V → List V → Hp → VK → Prop} {t : TA} (k : ta σ H fun x H1 => tyV K T x H1 ∧ t σ H1 fun xs H2 => r x xs H2 Q) : tBM K T r ta t σ H Q := k
theorem r_bm0 {T : String} {r : V → List V → Hp → VK → Prop} (k : ta σ H fun x H1 => tyV K T x H1 ∧ r x [] H1 Q) : tBM0 K T r ta σ H Q := k
theorem r_sl {r : V → Option Int → Option Int → Hp → VK → Prop} {tl th : TO} (k : te σ H fun x H1 => tl σ H1 fun l H2 => th σ H2 fun u H3 => r x l u H3 Q) : tSl r te tl th σ H Q := k
theorem r_noPart {P : Option Int → Hp → Prop} (k : P none H) : tNoPart σ H P := k
theorem r_part {P : Option Int → Hp → Prop} (k : te σ H fun x H1 => ∃ i, x = .int i ∧ P (some i) H1) : tPart te σ H P := k
theorem r_int {i : Int} {P : Int → Prop} (k : P i) : ∃ j, V.int i = .int j ∧ P j := ⟨i, rfl, k⟩
/-! leaves: ints -/
theorem r_I0 {g : Int → Int → V} {i j : Int} (k : Q (g i j) H) : rI0 g (.int i) (.int j) H Q := ⟨i, j, rfl, rfl, k⟩
theorem r_I {C : Int → Int → Prop} {g : Int → Int → V} {i j : Int} (c : C i j) (k : Q (g i j) H) : rI C g (.int i) (.int j) H Q := ⟨i, j, rfl, rfl, c, k⟩
theorem r_plusI {i j : Int} (k : Q (.int (i + j)) H) : rPlus K (.int i) (.int j) H Q := .inl ⟨i, j, rfl, rfl, k⟩
theorem r_timesI {i j : Int} (c : CMulW i j) (k : Q (.int (i * j)) H) : rTimes (.int i) (.int j) H Q := .inl ⟨i, j, rfl, rfl, c, k⟩
theorem r_neg {i : Int} (k : Q (.int (-i)) H) : rU (fun i => .int (-i)) (.int i) H Q := ⟨i, rfl, k⟩
theorem r_sameS (h : scal x y = true) (k : Q (.bl (decide (x = y))) H) : rSame K x y H Q := .inl ⟨h, k⟩
theorem r_otherS (h : scal x y = true) (k : Q (.bl (!decide (x = y))) H) : rOther K x y H Q := .inl ⟨h, k⟩
theorem r_isN (k : Q (.bl (decide (x = .non))) H) : (fun x y H Q => y = .non ∧ Q (.bl (decide (x = .non))) H : R2) x .non H Q := ⟨rfl, k⟩
/-! leaves: lists -/
theorem r_atL {p : Addr} {xs : List V} {i : Int} (h : SqL K H p xs) (e : atI xs i = some v) (k : Q v H) : rAt K (.ref p) (.int i) H Q := .inl ⟨p, xs, i, v, rfl, rfl, h, e, k⟩
theorem r_atT {p : Addr} {xs : List V} {i : Int} (h : SqT K H p xs) (e : atI xs i = some v) (k : Q v H) : rAt K (.ref p) (.int i) H Q := .inr ⟨p, xs, i, v, rfl, rfl, h, e, k⟩
/-- what is known of the heap behind a new object -/
def Ext (H H' : Hp) : Prop := ∀ a o, H a = some o → H' a = some o
theorem Ext.rfl {H : Hp} : Ext H H := fun _ _ h => h
theorem Ext.trans {H H1 H2 : Hp} (a : Ext H H1) (b : Ext H1 H2) : Ext H H2 := fun x o h => b x o (a x o h)
theorem Ext.new {H : Hp} {p : Addr} {o : HO} (h : H p = none) : Ext H (upd H p o) := fun a u e => by rw [upd_ne (ne_of_none e h)]; exact e
theorem Ext.mut {H H' : Hp} {p : Addr} {o : HO} (e : Ext H H') (h : H p = none) : Ext H (upd H' p o) := fun a u ha => by rw [upd_ne (ne_of_none ha h)]; exact e a u ha
theorem Ext.none {H H' : Hp} {p : Addr} (e : Ext H H') (h : H' p = none) : H p = none := by
  cases q : H p with
  | none => exact Eq.refl _
  | some o => rw [e p o q] at h; cases h
theorem Ext.l {H H' : Hp} {a : Addr} {xs : List V} (e : Ext H H') (h : SqL K H a xs) : SqL K H' a xs := by
  rcases h with (h | ⟨o, h⟩) | h
  · exact .inl (.inl (e _ _ h))
  · exact .inl (.inr ⟨o, e _ _ h⟩)
  · exact .inr h
theorem Ext.tu {H H' : Hp} {a : Addr} {xs : List V} (e : Ext H H') (h : SqT K H a xs) : SqT K H' a xs := by
  rcases h with (h | ⟨o, h⟩) | h
  · exact .inl (.inl (e _ _ h))
  · exact .inl (.inr ⟨o, e _ _ h⟩)
  · exact .inr h
theorem sqL {a : Addr} {xs : List V} (h : H a = some (.lst xs)) : SqL K H a xs := .inl (.inl h)
theorem sqT {a : Addr} {xs : List V} (h : H a = some (.tup xs)) : SqT K H a xs := .inl (.inl h)
theorem r_newL {xs : List V} (h : xs.length ≤ 100000) (k : ∀ p H', H p = none → Ext H H' → H' p = some (.lst xs) → Q (.ref p) H') : NewL xs H Q :=
  ⟨Nat.le_trans h (by decide), fun p hp => k p _ hp (Ext.new hp) upd_same⟩
theorem r_newT {xs : List V} (h : xs.length ≤ 100000) (k : ∀ p H', H p = none → Ext H H' → H' p = some (.tup xs) → Q (.ref p) H') : NewT xs H Q :=
  ⟨Nat.le_trans h (by decide), fun p hp => k p _ hp (Ext.new hp) upd_same⟩
/-- xs.append(v), the list at l the call's own (new since H0) -/
theorem r_app {l : Addr} {xs : List V} (h : H l = some (.lst xs)) (hz : xs.length < 100000) (k : ∀ H', H' l = some (.lst (xs ++ [v])) → (∀ b, b ≠ l → H' b = H b) → Q .non H') : rAppend (.ref l) [v] H Q :=
  ⟨l, xs, v, rfl, rfl, h, Nat.lt_of_lt_of_le hz (by decide), k _ upd_same fun b hb => upd_ne hb⟩
theorem r_popL {l : Addr} {xs : List V} (h : H l = some (.lst (xs ++ [v]))) (k : ∀ H', H' l = some (.lst xs) → (∀ b, b ≠ l → H' b = H b) → Q v H') : rPop (.ref l) [] H Q :=
  ⟨l, xs ++ [v], v, rfl, rfl, h, by simp, k _ (by rw [List.dropLast_concat]; exact upd_same) fun b hb => upd_ne hb⟩
theorem tyL {a : Addr} {xs : List V} (h : SqL K H a xs) : tyV K "list" (.ref a) H := .inl ⟨rfl, xs, h⟩
theorem mut_ext {H0 H H' : Hp} {l : Addr} (e : Ext H0 H) (h0 : H0 l = none) (m : ∀ b, b ≠ l → H' b = H b) : Ext H0 H' := fun a o ha => (m a (ne_of_none ha h0)).trans (e a o ha)
theorem mut_at {H H' : Hp} {l b : Addr} {o : HO} (m : ∀ b, b ≠ l → H' b = H b) (hb : b ≠ l) (h : H b = some o) : H' b = some o := (m b hb).trans h
/-! tests -/
theorem ite_d {p A B : Prop} [Decidable p] (h1 : p → A) (h2 : ¬ p → B) : if decide p = true then A else B := by
  by_cases h : p
  · rw [if_pos (decide_eq_true h)]; exact h1 h
  · rw [if_neg (by simpa using h)]; exact h2 h
theorem ite_n {p A B : Prop} [Decidable p] (h1 : ¬ p → A) (h2 : p → B) : if (!decide p) = true then A else B := by
  by_cases h : p
  · rw [if_neg (by simpa using h)]; exact h2 h
  · rw [if_pos (by simpa using h)]; exact h1 h
theorem ite_b {b : Bool} {A B : Prop} (h1 : b = true → A) (h2 : b = false → B) : if b = true then A else B := by
  cases b
  · exact h2 rfl
  · exact h1 rfl
theorem ite_t {A B : Prop} (h : A) : if true = true then A else B := h
theorem ite_f {A B : Prop} (h : B) : if false = true then A else B := h
end
end L3
namespace L3
open PySem PySem.Spec PyProof.Rows L2
/-- xs[i] ahead of xs[i] op= e, i from the front -/
def rGetL (K : PySem.W.Frag) : R2 := fun x y H Q => ∃ p xs i v, x = .ref p ∧ y = .int i ∧ SqL K H p xs ∧ 0 ≤ i ∧ xs[i.toNat]? = some v ∧ Q v H
theorem get_list {X : Cx} : PGet X (rGetL X.K) := by
  intro pins s σ H o i ov iv Q I ro ri h
  obtain ⟨p, xs, j, z, rfl, rfl, hq, h0, e, q⟩ := h
  cases ro
  obtain ⟨t, rfl⟩ := ri
  obtain ⟨its, r, pl, hz⟩ := I.list hq
  obtain ⟨w, ew, rw'⟩ := r.get e
  have hl := r.length
  have hn := line63
  have h5 : j.toNat < xs.length := (List.getElem?_eq_some_iff.mp e).1
  exact wpAny_getItem_list pl.isList h0 (by omega) (by simpa using ew) ⟨z, H, I, rw', q⟩
theorem r_getL {K : PySem.W.Frag} {H : Hp} {Q : VK} {p : Addr} {xs : List V} {i : Int} {v : V} (h : SqL K H p xs) (h0 : 0 ≤ i) (e : xs[i.toNat]? = some v) (k : Q v H) : rGetL K (.ref p) (.int i) H Q := ⟨p, xs, i, v, rfl, rfl, h, h0, e, k⟩
theorem r_ipI {f : Int → Int → Int} {H : Hp} {Q : VK} {i j : Int} (k : Q (.int (f i j)) H) : ipI f (.int i) (.int j) H Q := ⟨i, j, rfl, rfl, k⟩
theorem ixN_of {n j : Nat} (hj : j < n) : ixN n (j : Int) = some j := by
  unfold ixN
  rw [if_pos (by omega), if_pos (by omega)]
  simp
theorem r_setL {H : Hp} {P : Hp → Prop} {p : Addr} {xs : List V} {i : Int} {j : Nat} {v : V} (h : H p = some (.lst xs)) (hi : i = (j : Int)) (hj : j < xs.length) (k : ∀ H', H' p = some (.lst (xs.set j v)) → (∀ b, b ≠ p → H' b = H b) → P H') : rSetL (.ref p) (.int i) v H P :=
  ⟨p, xs, i, j, rfl, rfl, h, by rw [hi]; exact ixN_of hj, k _ upd_same fun b hb => upd_ne hb⟩
end L3
set_option maxRecDepth 100000
set_option maxHeartbeats 4000000
/-! CmE: own errors raised; the bounds; a source of draws. -/
namespace L3
open PySem PySem.Spec PyProof.Rows L2 He
/-! ### an error's __init__ that stores one name, two names -/
def spI1 (C : Addr) (f : Str) : Sp := fun vs H Q _ => ∃ (a : Addr) (v : V), vs = [.ref a, v] ∧ H a = some (exo a C none) ∧ ∀ dx, H dx = none → dx ≠ a → Q .non (upd (upd H dx (exd dx [(f, v)])) a (exo a C (some dx)))
def spI2 (C : Addr) (f g : Str) : Sp := fun vs H Q _ => ∃ (a : Addr) (u v : V), vs = [.ref a, u, v] ∧ H a = some (exo a C none) ∧ ∀ dx, H dx = none → dx ≠ a → Q .non (upd (upd (upd H dx (exd dx [(f, u)])) a (exo a C (some dx))) dx (exd dx [(g, v), (f, u)]))
abbrev ErrI (P : Program) (w : World) (K : PySem.W.Frag) (mg : Str → Option Value) (base : Heap) (x : Str) (ps : List Str) (sp : Sp) : Prop :=
  ∃ fd, FnOk P w K mg base (L2N.CX P w) 1 (ma K (ga K x) "__init__") fd ps sp ∧ Binds K fd ps []
section
variable {P : Program} {w : World} {K : PySem.W.Frag} {mg : Str → Option Value} {base : Heap}
theorem errI_of {x q : Str} {st : Stmt} {N ps : List Str} {sp : Sp} (D : ∃ fd, FunD K "__init__" q (defArgs st) (defBody st) (defScope st) [] [] (ma K (ga K x) "__init__") fd) (S : FnScope N ps (defScope st))
    (hb : ∀ (dV kV doc pm : Value) (an : Option Addr) (cdv ct : Value) (us : List Value), us.length = ps.length → bindArgs (PySem.W.fnOf "__init__" q (defArgs st) (defBody st) (defScope st) .none kV doc pm an cdv ct) ⟨us, []⟩ = pure (ps.zip us))
    (len : ∀ vs H Q E, sp vs H Q E → vs.length = ps.length)
    (hbody : ∀ (cdv : Value) (A : Around) (outer : List Env) (s : Shared) (H : Hp) (vs : List V) (Q : VK) (E : XK), Room 0 (A.deeper (envOfC q (defScope st) s.heap.objs.size (ma K (ga K x) "__init__") cdv)) → sp vs H Q E →
      ∃ t, PSs (cxOf (L2N.CX P w) P w K mg base N q (defScope st) (ma K (ga K x) "__init__") cdv A outer s H E) (defBody st) t ∧ t { nx := fun _ H' => Q .non H', rt := Q } (start N vs) H) : ErrI P w K mg base x ps sp := by
  obtain ⟨fd, F⟩ := D
  exact ⟨fd, F.ok S len hbody, F.bindsN fun kV doc pm an cdv ct us hl => hb .none kV doc pm an cdv ct us hl⟩
theorem pmk_errI {X : Cx} {x : Str} {fs ps : List Str} {sp : Sp} {e : Expr} {es : List Expr} {ta : TA} {p pos : Pos} {k : Nat} (EC : ErrC X.K x fs) (I : ErrI X.prog X.w X.K X.mg X.base x ps sp) (hr : Room k X.A) (hk : 2 ≤ k) (hm : X.mg x = some (.ref (ga X.K x))) (ha : PA X (e :: es) ta)
    (hg : Gl X x := by rfl) (hdb : (x == ("__debug__" : Str)) = false := by decide) (he : starEach (e :: es) X.env = (false, eval e X.env) :: starEach es X.env := by rfl) (hpl : (backTo pos (starEach es X.env)).any (·.1) = false := by rfl) :
    L2N.PMk X (.Call (.Name x p) (e :: es) [] pos) (tMkO (ga X.K x) sp [] ta) := by
  have key := Classical.choose_spec I
  exact pmk_err EC.o EC.iC EC.tI key.1 (hr.mono hk) key.2 (fun _ _ _ _ _ _ _ z => by
    obtain ⟨_, _, _, _, _, _, _, _, _, _, _, _, z⟩ := z
    exact z.elim) hg hm ha hdb he hpl
/-- the reading of self.f = v in such an __init__ -/
theorem r_ost1 {σ : L2.St} {H : Hp} {f : Str} {v : V} {a C : Addr} {nx bk ct : L2.St → Hp → Prop} {rt : VK} (ho : OexC K C) (hno : PySem.W.findIn K (.ref C) f = some none) (ea : H a = some (exo a C none)) {i j : Nat} (hi : σ[i]? = some (some (.ref a))) (hj : σ[j]? = some (some v))
    (k : ∀ dx, H dx = none → dx ≠ a → nx σ (upd (upd H dx (exd dx [(f, v)])) a (exo a C (some dx)))) : tOst K f (tVar i) (tVar j) ⟨nx, rt, bk, ct⟩ σ H :=
  ⟨v, hj, .ref a, hi, a, C, rfl, ho, hno, .inl ⟨ea, k⟩⟩
theorem r_ost2 {σ : L2.St} {H : Hp} {f : Str} {v : V} {a C dx : Addr} {fs : List (Str × V)} {nx bk ct : L2.St → Hp → Prop} {rt : VK} (ho : OexC K C) (hno : PySem.W.findIn K (.ref C) f = some none) (ea : H a = some (exo a C (some dx))) (ed : H dx = some (exd dx fs)) (hf : fs.length ≤ 900)
    {i j : Nat} (hi : σ[i]? = some (some (.ref a))) (hj : σ[j]? = some (some v)) (k : nx σ (upd H dx (exd dx ((f, v) :: fs)))) : tOst K f (tVar i) (tVar j) ⟨nx, rt, bk, ct⟩ σ H :=
  ⟨v, hj, .ref a, hi, a, C, rfl, ho, hno, .inr ⟨dx, fs, ea, ed, hf, k⟩⟩
theorem exo_ne_exd {a C dx : Addr} {d : Option Addr} {fs : List (Str × V)} {H : Hp} (ha : H a = none) (hd : upd H a (exo a C d) dx = none) : dx ≠ a := fun e => by
  rw [e, upd_same] at hd; cases hd
theorem err_heap {H : Hp} {a dx C : Addr} {u o : HO} (ha : H a = none) (hd : H dx = none) (hne : dx ≠ a) : Ext H (upd (del (upd (upd (upd H a u) dx o) a u) a) dx o) ∧ (upd (del (upd (upd (upd H a u) dx o) a u) a) dx o) dx = some o :=
  ⟨fun b q e => by rw [upd_ne (ne_of_none e hd), del_ne (ne_of_none e ha), upd_ne (ne_of_none e ha), upd_ne (ne_of_none e hd), upd_ne (ne_of_none e ha)]; exact e, upd_same⟩
/-- C(v): an error with its own dict, new -/
theorem r_mk1 {H : Hp} {C : Addr} {f : Str} {v : V} {E : XK} (k : ∀ d H', H d = none → Ext H H' → H' d = some (.xd [(f, v)]) → E (.ref C) (some d) H') :
    [v].length ≤ 1000 ∧ ∀ a, H a = none → spI1 C f (.ref a :: ([v] ++ [])) (upd H a (exo a C none)) (fun v' H2 => v' = .non ∧ ∃ (d : Addr) (fs : List (Str × V)), H2 a = some (exo a C (some d)) ∧ H2 d = some (exd d fs) ∧ H d = none ∧ E (.ref C) (some d) (upd (del H2 a) d (.xd fs))) (fun _ _ _ => False) := by
  refine ⟨by show 1 ≤ 1000; decide, fun a ha => ⟨a, v, rfl, upd_same, fun dx hd hne => ⟨rfl, dx, [(f, v)], upd_same, by rw [upd_ne hne, upd_same], ?_, ?_⟩⟩⟩
  · rw [upd_ne hne] at hd; exact hd
  · rw [upd_ne hne] at hd
    refine k dx _ hd (fun b q e => ?_) upd_same
    rw [upd_ne (ne_of_none e hd), del_ne (ne_of_none e ha), upd_ne (ne_of_none e ha), upd_ne (ne_of_none e hd), upd_ne (ne_of_none e ha)]
    exact e
theorem r_mk2 {H : Hp} {C : Addr} {f g : Str} {u v : V} {E : XK} (k : ∀ d H', H d = none → Ext H H' → H' d = some (.xd [(g, v), (f, u)]) → E (.ref C) (some d) H') :
    [u, v].length ≤ 1000 ∧ ∀ a, H a = none → spI2 C f g (.ref a :: ([u, v] ++ [])) (upd H a (exo a C none)) (fun v' H2 => v' = .non ∧ ∃ (d : Addr) (fs : List (Str × V)), H2 a = some (exo a C (some d)) ∧ H2 d = some (exd d fs) ∧ H d = none ∧ E (.ref C) (some d) (upd (del H2 a) d (.xd fs))) (fun _ _ _ => False) := by
  refine ⟨by show 2 ≤ 1000; decide, fun a ha => ⟨a, u, v, rfl, upd_same, fun dx hd hne => ⟨rfl, dx, [(g, v), (f, u)], by rw [upd_ne hne.symm, upd_same], upd_same, ?_, ?_⟩⟩⟩
  · rw [upd_ne hne] at hd; exact hd
  · rw [upd_ne hne] at hd
    refine k dx _ hd (fun b q e => ?_) upd_same
    rw [upd_ne (ne_of_none e hd), del_ne (ne_of_none e ha), upd_ne (ne_of_none e hd), upd_ne (ne_of_none e ha), upd_ne (ne_of_none e hd), upd_ne (ne_of_none e ha)]
    exact e
end
/-- raise C(e, ..) -/
theorem r_mkO {sp : Sp} {ta : TA} {C : Addr} {E : XK} {σ : L2.St} {H : Hp} (k : ta σ H fun vs H1 => vs.length ≤ 1000 ∧ ∀ a, H1 a = none → sp (.ref a :: (vs ++ [])) (upd H1 a (exo a C none))
    (fun v H2 => v = .non ∧ ∃ (d : Addr) (fs : List (Str × V)), H2 a = some (exo a C (some d)) ∧ H2 d = some (exd d fs) ∧ H1 d = none ∧ E (.ref C) (some d) (upd (del H2 a) d (.xd fs))) (fun _ _ _ => False)) :
    tMkO C sp [] ta σ H E := k
/-! ### wide products: one factor small, or both below a million bits -/
def CMulB (i j : Int) : Prop := CMulW i j ∨ CMul i j
def rTimesB : R2 := fun x y H Q => rI CMulB (fun i j => .int (i * j)) x y H Q ∨ rRep x y H Q
theorem op_timesB {X : Cx} : OpR X (binaryOp .Mult) rTimesB := by
  intro pins s σ H x y u v Q I rx ry h
  rcases h with ⟨i, j, ex, ey, c, q⟩ | h
  · rcases c with c | c
    · exact op_mulW pins s σ H x y u v Q I rx ry ⟨i, j, ex, ey, c, q⟩
    · exact op_mul pins s σ H x y u v Q I rx ry ⟨i, j, ex, ey, c, q⟩
  · exact op_rep pins s σ H x y u v Q I rx ry h
theorem r_timesB {H : Hp} {Q : VK} {i j : Int} (c : CMulB i j) (k : Q (.int (i * j)) H) : rTimesB (.int i) (.int j) H Q := .inl ⟨i, j, rfl, rfl, c, k⟩
theorem cmR {i j : Int} (h1 : -(2 ^ 64) < j) (h2 : j < 2 ^ 64) : CMulB i j := .inr (.inr ⟨h1, h2⟩)
theorem cmL {i j : Int} (h1 : -(2 ^ 64) < i) (h2 : i < 2 ^ 64) : CMulB i j := .inr (.inl ⟨h1, h2⟩)
theorem cdW {i j : Int} (h : 0 < j) (h2 : j < 2 ^ 250) : CDivW i j := wide_div h (b := 250) (by omega) (by decide) (by decide)
theorem r_repL {l : Addr} {xs : List V} {H : Hp} {Q : VK} {k : Int} (h : H l = some (.lst xs)) (h1 : -(2 ^ 63) ≤ k) (h2 : k < 2 ^ 63) (h3 : xs.length * k.toNat ≤ 100000) (q : ∀ p H', H p = none → Ext H H' → H' p = some (.lst (List.replicate k.toNat xs).flatten) → Q (.ref p) H') : rTimesB (.ref l) (.int k) H Q :=
  .inr ⟨l, k, xs, rfl, rfl, h, h1, h2, Nat.le_trans h3 (by decide), fun p hp => q p _ hp (Ext.new hp) upd_same⟩
end L3
namespace L3
open PySem PySem.Spec PyProof.Rows L2 He
section
variable {K : PySem.W.Frag} {H : Hp} {Q : VK} {σ : L2.St}
/-! leaves of built-ins -/
def LenS (K : PySem.W.Frag) : List V → Hp → VK → Prop := fun xs H Q => ∃ p ys, xs = [.ref p] ∧ (SqL K H p ys ∨ SqT K H p ys) ∧ Q (.int ys.length) H
theorem cr_len {X : Cx} : CallR X (.builtin "len") (LenS X.K) := call_len_seq
theorem r_lenL {p : Addr} {ys : List V} {n : Int} (h : SqL K H p ys) (e : (ys.length : Int) = n) (k : Q (.int n) H) : LenS K [.ref p] H Q := ⟨p, ys, rfl, .inl h, by rw [e]; exact k⟩
theorem r_lenT {p : Addr} {ys : List V} {n : Int} (h : SqT K H p ys) (e : (ys.length : Int) = n) (k : Q (.int n) H) : LenS K [.ref p] H Q := ⟨p, ys, rfl, .inr h, by rw [e]; exact k⟩
def IntS : List V → Hp → VK → Prop := fun xs H Q => (∃ i, xs = [.int i] ∧ Q (.int i) H) ∨ ∃ k, xs = [.bl k] ∧ Q (.int (if k then 1 else 0)) H
theorem cr_int {X : Cx} : CallR X (.type "int") IntS := call_int1
theorem r_intI {i : Int} (k : Q (.int i) H) : IntS [.int i] H Q := .inl ⟨i, rfl, k⟩
def AbsS : List V → Hp → VK → Prop := fun xs H Q => ∃ i, xs = [.int i] ∧ Q (.int (if i < 0 then -i else i)) H
theorem cr_abs {X : Cx} : CallR X (.builtin "abs") AbsS := call_abs
theorem r_abs {i : Int} (k : Q (.int (if i < 0 then -i else i)) H) : AbsS [.int i] H Q := ⟨i, rfl, k⟩
def MinS : List V → Hp → VK → Prop := fun xs H Q => ∃ i j, xs = [.int i, .int j] ∧ Q (.int (if j < i then j else i)) H
def MaxS : List V → Hp → VK → Prop := fun xs H Q => ∃ i j, xs = [.int i, .int j] ∧ Q (.int (if j > i then j else i)) H
theorem cr_min2 {X : Cx} (hc : X.calm = true) : CallR X (.builtin "min") MinS := call_min2 hc
theorem cr_max2 {X : Cx} (hc : X.calm = true) : CallR X (.builtin "max") MaxS := call_max2 hc
theorem r_min {i j : Int} (k : Q (.int (min i j)) H) : MinS [.int i, .int j] H Q := ⟨i, j, rfl, by
  have e : (if j < i then j else i) = min i j := by split <;> omega
  rw [e]; exact k⟩
theorem r_max {i j : Int} (k : Q (.int (max i j)) H) : MaxS [.int i, .int j] H Q := ⟨i, j, rfl, by
  have e : (if j > i then j else i) = max i j := by split <;> omega
  rw [e]; exact k⟩
def ListS (K : PySem.W.Frag) : List V → Hp → VK → Prop := fun xs H Q => ∃ p ys, xs = [.ref p] ∧ (SqL K H p ys ∨ SqT K H p ys) ∧ ∀ l, H l = none → Q (.ref l) (upd H l (.lst ys))
theorem cr_list {X : Cx} : CallR X (.type "list") (ListS X.K) := call_list_of
theorem r_listL {p : Addr} {ys : List V} (h : SqL K H p ys) (k : ∀ l H', H l = none → Ext H H' → H' l = some (.lst ys) → Q (.ref l) H') : ListS K [.ref p] H Q := ⟨p, ys, rfl, .inl h, fun l hl => k l _ hl (Ext.new hl) upd_same⟩
theorem r_listT {p : Addr} {ys : List V} (h : SqT K H p ys) (k : ∀ l H', H l = none → Ext H H' → H' l = some (.lst ys) → Q (.ref l) H') : ListS K [.ref p] H Q := ⟨p, ys, rfl, .inr h, fun l hl => k l _ hl (Ext.new hl) upd_same⟩
theorem r_sum {p : Addr} {ns : List Int} (h : SqL K H p (ns.map V.int)) (k : Q (.int ns.sum) H) : rSum K [.ref p] H Q := ⟨p, ns, rfl, h, k⟩
theorem r_slL {p : Addr} {xs : List V} {lo hi : Option Int} (h : SqL K H p xs) (k : ∀ l H', H l = none → Ext H H' → H' l = some (.lst (cutV xs lo hi)) → Q (.ref l) H') : rSlL K (.ref p) lo hi H Q := ⟨p, xs, rfl, h, fun l hl => k l _ hl (Ext.new hl) upd_same⟩
theorem r_catL {l b : Addr} {xs zs : List V} (h1 : H l = some (.lst xs)) (h2 : H b = some (.lst zs)) (hz : xs.length + zs.length ≤ 100000) (k : ∀ p H', H p = none → Ext H H' → H' p = some (.lst (xs ++ zs)) → Q (.ref p) H') : rPlus K (.ref l) (.ref b) H Q :=
  .inr (.inl ⟨l, b, xs, zs, rfl, rfl, h1, h2, Nat.le_trans hz (by decide), fun p hp => k p _ hp (Ext.new hp) upd_same⟩)
theorem r_popAt {l : Addr} {xs : List V} {i : Int} {j : Nat} {v : V} (h : H l = some (.lst xs)) (ei : i = (j : Int)) (hj : j < 100000) (e : xs[j]? = some v) (k : ∀ H', H' l = some (.lst (xs.eraseIdx j)) → (∀ b, b ≠ l → H' b = H b) → Q v H') : rPopAt (.ref l) [.int i] H Q := by
  subst ei
  have hl : j < xs.length := (List.getElem?_eq_some_iff.mp e).1
  exact ⟨l, xs, (j : Int), j, v, rfl, rfl, h, by omega, by omega, seqIndex_of (by omega) (by omega), e, k _ upd_same fun b hb => upd_ne hb⟩
theorem r_pow {i j : Int} (h : 0 ≤ j ∧ j ≤ 1000000 ∧ i.natAbs < 2 ^ 64) (k : Q (.int (i ^ j.toNat)) H) : rI CPow (fun i j => .int (i ^ j.toNat)) (.int i) (.int j) H Q := ⟨i, j, rfl, rfl, h, k⟩
theorem r_mod {i j : Int} (h : 0 < j) (k : Q (.int (i % j)) H) : rI (fun _ j => 0 < j) (fun i j => .int (i % j)) (.int i) (.int j) H Q := ⟨i, j, rfl, rfl, h, k⟩
theorem r_div {i j : Int} (h : CDivW i j) (k : Q (.int (i / j)) H) : rI CDivW (fun i j => .int (i / j)) (.int i) (.int j) H Q := ⟨i, j, rfl, rfl, h, k⟩
end
end L3
set_option maxRecDepth 100000
set_option maxHeartbeats 4000000
/-! CmF: loops and comprehensions, read by an invariant. -/
namespace L3
open PySem PySem.Spec PyProof.Rows L2 He
def ForW (J : It) (g : TG) (tb : TS) (D : Ends) (σ : L2.St) (H1 : Hp) : Prop := ∃ W : Nat → Nat → L2.St → Hp → Prop, (∃ m, W 0 m σ H1) ∧ ∀ i m σ H, W i m σ H →
  (J.stop i H ∧ D.nx σ H) ∨ (J.go i H ∧ ∃ N : L2.St → Hp → Prop, (∀ σ' H', N σ' H' → ∃ m', m' < m ∧ W (i + 1) m' σ' H') ∧ ∀ x H', J.yld i H x H' → g x σ H' fun σ2 H2 => tb { D with nx := N, ct := N, bk := D.nx } σ2 H2)
def LcW (J : It) (g : TG) (tt : TT) (te : TE) (vs : List Nat) (σ : L2.St) (D : Addr) (Qd : Hp → Prop) (H1 : Hp) : Prop := ∃ W : Nat → Nat → Hp → Prop, (∃ m, W 0 m (upd H1 D (.lst []))) ∧ ∀ i m H, W i m H →
  (J.stop i H ∧ Qd H) ∨ (J.go i H ∧ ∃ Nx : Hp → Prop, (∀ H', Nx H' → ∃ m', m' < m ∧ W (i + 1) m' H') ∧ ∀ x H', J.yld i H x H' → g x (wipe σ vs) H' fun σ2 H2 => wipe σ2 vs = wipe σ vs ∧ tt σ2 H2 fun b H3 =>
    if b = true then te σ2 H3 fun y H4 => ∃ acc, H4 D = some (.lst acc) ∧ acc.length < sizeLine ∧ Nx (upd H4 D (.lst (acc ++ [y]))) else Nx H3)
section
variable {σ : L2.St} {H : Hp} {D : Ends} {K : PySem.W.Frag} {g : TG} {tb : TS} {wi : TI} {ta : TA} {tl te : TE} {tt : TT} {R : It → Hp → Prop} {nx bk ct : L2.St → Hp → Prop} {rt : VK} {Q : VK}
theorem r_for (k : wi σ H fun J H1 => ForW J g tb D σ H1) : tFor wi g tb D σ H := k
theorem r_lc {vs : List Nat} (k : wi σ H fun J H1 => ∀ D, H1 D = none → LcW J g tt te vs σ D (fun H => Q (.ref D) H) H1) : tLc wi g tt te vs σ H Q := k
def Rg1 (vs : List V) (H1 : Hp) (R : It → Hp → Prop) : Prop := ∃ j : Int, vs = [.int j] ∧ -(2 ^ 62) ≤ j ∧ j < 2 ^ 62 ∧ R (Itr 0 j.toNat) H1
def Rg2 (vs : List V) (H1 : Hp) (R : It → Hp → Prop) : Prop := ∃ i j : Int, vs = [.int i, .int j] ∧ (-(2 ^ 62) ≤ i ∧ i < 2 ^ 62 ∧ -(2 ^ 62) ≤ j ∧ j < 2 ^ 62) ∧ R (Itr i (j - i).toNat) H1
def LiI (K : PySem.W.Frag) (x : V) (H1 : Hp) (R : It → Hp → Prop) : Prop := ∃ a, x = .ref a ∧ (∃ xs, SqL K H1 a xs) ∧ R (Itl K a) H1
def TiI (K : PySem.W.Frag) (x : V) (H1 : Hp) (R : It → Hp → Prop) : Prop := ∃ a, x = .ref a ∧ (∃ xs, SqT K H1 a xs) ∧ R (Itt K a) H1
theorem r_iR1 (k : ta σ H fun vs H1 => Rg1 vs H1 R) : iRng1 ta σ H R := k
theorem r_rg1 {j : Int} (h : -(2 ^ 62) ≤ j ∧ j < 2 ^ 62) (k : R (Itr 0 j.toNat) H) : Rg1 [V.int j] H R := ⟨j, rfl, h.1, h.2, k⟩
theorem r_iR2 (k : ta σ H fun vs H1 => Rg2 vs H1 R) : iRng2 ta σ H R := k
theorem r_rg2 {i j : Int} (h : -(2 ^ 62) ≤ i ∧ i < 2 ^ 62 ∧ -(2 ^ 62) ≤ j ∧ j < 2 ^ 62) (k : R (Itr i (j - i).toNat) H) : Rg2 [V.int i, V.int j] H R := ⟨i, j, rfl, h, k⟩
theorem r_iL (k : tl σ H fun x H1 => LiI K x H1 R) : iList K tl σ H R := k
theorem r_iT (k : tl σ H fun x H1 => TiI K x H1 R) : iTup K tl σ H R := k
theorem r_li {a : Addr} {xs : List V} (h : SqL K H a xs) (k : R (Itl K a) H) : LiI K (.ref a) H R := ⟨a, rfl, ⟨xs, h⟩, k⟩
theorem r_ti {a : Addr} {xs : List V} (h : SqT K H a xs) (k : R (Itt K a) H) : TiI K (.ref a) H R := ⟨a, rfl, ⟨xs, h⟩, k⟩
/-- for over a range: Pv of the turn, the slots, the heap -/
theorem forW_range {lo : Int} {n : Nat} (Pv : Nat → L2.St → Hp → Prop) (h0 : Pv 0 σ H) (hs : ∀ i σ H, i < n → Pv i σ H → g (.int (lo + i)) σ H fun σ2 H2 => tb ⟨Pv (i + 1), rt, nx, Pv (i + 1)⟩ σ2 H2) (hd : ∀ σ H, Pv n σ H → nx σ H) : ForW (Itr lo n) g tb ⟨nx, rt, bk, ct⟩ σ H :=
  for_range (D := ⟨nx, rt, bk, ct⟩) Pv h0 hs hd
theorem forW_list {a : Addr} {xs : List V} (Pv : Nat → L2.St → Hp → Prop) (h0 : Pv 0 σ H) (hl : ∀ i σ H, i ≤ xs.length → Pv i σ H → SqL K H a xs) (hs : ∀ i x σ H, xs[i]? = some x → Pv i σ H → g x σ H fun σ2 H2 => tb ⟨Pv (i + 1), rt, nx, Pv (i + 1)⟩ σ2 H2)
    (hd : ∀ σ H, Pv xs.length σ H → nx σ H) : ForW (Itl K a) g tb ⟨nx, rt, bk, ct⟩ σ H := for_list (D := ⟨nx, rt, bk, ct⟩) Pv h0 hl hs hd
theorem forW_tup {a : Addr} {xs : List V} (Pv : Nat → L2.St → Hp → Prop) (h0 : Pv 0 σ H) (hl : ∀ i σ H, i ≤ xs.length → Pv i σ H → SqT K H a xs) (hs : ∀ i x σ H, xs[i]? = some x → Pv i σ H → g x σ H fun σ2 H2 => tb ⟨Pv (i + 1), rt, nx, Pv (i + 1)⟩ σ2 H2)
    (hd : ∀ σ H, Pv xs.length σ H → nx σ H) : ForW (Itt K a) g tb ⟨nx, rt, bk, ct⟩ σ H := for_tup (D := ⟨nx, rt, bk, ct⟩) Pv h0 hl hs hd
/-- while, by a word that falls -/
theorem whileW {c : TT} (W : Nat → L2.St → Hp → Prop) (m0 : Nat) (h0 : W m0 σ H)
    (hs : ∀ m σ H, W m σ H → c σ H fun b H1 => if b = true then ∃ N : L2.St → Hp → Prop, (∀ σ' H', N σ' H' → ∃ m', m' < m ∧ W m' σ' H') ∧ tb ⟨N, rt, nx, N⟩ σ H1 else nx σ H1) : tWhile c tb ⟨nx, rt, bk, ct⟩ σ H := ⟨W, ⟨m0, h0⟩, hs⟩
theorem r_N {W : Nat → L2.St → Hp → Prop} {m : Nat} (k : tb ⟨fun σ' H' => ∃ m', m' < m ∧ W m' σ' H', rt, nx, fun σ' H' => ∃ m', m' < m ∧ W m' σ' H'⟩ σ H) :
    ∃ N : L2.St → Hp → Prop, (∀ σ' H', N σ' H' → ∃ m', m' < m ∧ W m' σ' H') ∧ tb ⟨N, rt, nx, N⟩ σ H := ⟨_, fun _ _ h => h, k⟩
theorem r_gname {i : Nat} {v : V} {P : L2.St → Hp → Prop} (k : P (σ.set i (some v)) H) : gName i v σ H P := k
theorem r_gtup {n : Nat} {t : TGs} {a : Addr} {xs : List V} {P : L2.St → Hp → Prop} (h : SqT K H a xs) (hn : xs.length = n) (k : t xs σ H P) : gTup K n t (.ref a) σ H P := ⟨a, xs, rfl, h, hn, k⟩
theorem r_glst {n : Nat} {t : TGs} {a : Addr} {xs : List V} {P : L2.St → Hp → Prop} (h : SqL K H a xs) (hn : xs.length = n) (k : t xs σ H P) : gLst K n t (.ref a) σ H P := ⟨a, xs, rfl, h, hn, k⟩
theorem r_gcons {t : TG} {u : TGs} {v : V} {r : List V} {P : L2.St → Hp → Prop} (k : t v σ H fun σ' H' => u r σ' H' P) : gCons t u (v :: r) σ H P := ⟨v, r, rfl, k⟩
theorem r_gnil {P : L2.St → Hp → Prop} (k : P σ H) : gNil [] σ H P := ⟨rfl, k⟩
/-! comprehensions -/
theorem lcW_range {lo : Int} {n : Nat} {vs : List Nat} {Dl : Addr} {Qd : Hp → Prop} (Pv : Nat → Hp → Prop) (h0 : Pv 0 (upd H Dl (.lst []))) (hs : ∀ i H, i < n → Pv i H → g (.int (lo + i)) (wipe σ vs) H fun σ2 H2 => wipe σ2 vs = wipe σ vs ∧ tt σ2 H2 fun b H3 =>
      if b = true then te σ2 H3 fun y H4 => ∃ acc, H4 Dl = some (.lst acc) ∧ acc.length < sizeLine ∧ Pv (i + 1) (upd H4 Dl (.lst (acc ++ [y]))) else Pv (i + 1) H3) (hd : ∀ H, Pv n H → Qd H) : LcW (Itr lo n) g tt te vs σ Dl Qd H := lc_range Pv h0 hs hd
theorem lcW_list {a : Addr} {xs : List V} {vs : List Nat} {Dl : Addr} {Qd : Hp → Prop} (Pv : Nat → Hp → Prop) (h0 : Pv 0 (upd H Dl (.lst []))) (hl : ∀ i H, i ≤ xs.length → Pv i H → SqL K H a xs)
    (hs : ∀ i x H, xs[i]? = some x → Pv i H → g x (wipe σ vs) H fun σ2 H2 => wipe σ2 vs = wipe σ vs ∧ tt σ2 H2 fun b H3 =>
      if b = true then te σ2 H3 fun y H4 => ∃ acc, H4 Dl = some (.lst acc) ∧ acc.length < sizeLine ∧ Pv (i + 1) (upd H4 Dl (.lst (acc ++ [y]))) else Pv (i + 1) H3) (hd : ∀ H, Pv xs.length H → Qd H) : LcW (Itl K a) g tt te vs σ Dl Qd H := lc_list Pv h0 hl hs hd
/-- what has been made so far: one value a turn -/
structure LcP (H1 : Hp) (Dl : Addr) (f : Nat → V) (i : Nat) (H' : Hp) : Prop where
  e : Ext H1 H'
  d : H' Dl = some (.lst ((List.range i).map f))
theorem LcP.start {H1 : Hp} {Dl : Addr} {f : Nat → V} (hD : H1 Dl = none) : LcP H1 Dl f 0 (upd H1 Dl (.lst [])) := ⟨Ext.new hD, upd_same⟩
theorem LcP.push {H1 H' H4 : Hp} {Dl : Addr} {f : Nat → V} {i : Nat} {y : V} (p : LcP H1 Dl f i H') (hD : H1 Dl = none) (hi : i < 100000) (e : Ext H' H4) (ey : y = f i) : ∃ acc, H4 Dl = some (.lst acc) ∧ acc.length < sizeLine ∧ LcP H1 Dl f (i + 1) (upd H4 Dl (.lst (acc ++ [y]))) := by
  refine ⟨_, e _ _ p.d, ?_, Ext.mut (p.e.trans e) hD, ?_⟩
  · rw [List.length_map, List.length_range]
    exact Nat.lt_of_lt_of_le hi (by decide)
  · rw [upd_same, List.range_succ, List.map_append, ey]
    rfl
theorem r_yes {P : Bool → Hp → Prop} (k : P true H) : tYes σ H P := k
theorem r_lcW {vs : List Nat} {σ2 : L2.St} {P : Prop} (e : wipe σ2 vs = wipe σ vs) (k : P) : wipe σ2 vs = wipe σ vs ∧ P := ⟨e, k⟩
end
end L3
namespace L3
open PySem PySem.Spec PyProof.Rows L2 He
/-- a statement, then the rest, with a word between -/
theorem r_cut {t u : TS} {nx bk ct : L2.St → Hp → Prop} {rt : VK} {σ : L2.St} {H : Hp} (M : L2.St → Hp → Prop) (h1 : t ⟨M, rt, bk, ct⟩ σ H) (h2 : ∀ σ' H', M σ' H' → u ⟨nx, rt, bk, ct⟩ σ' H') : C8.tCut t u ⟨nx, rt, bk, ct⟩ σ H := ⟨M, h1, h2⟩
theorem ifI {b : Bool} {x y : Int} {Q : VK} {H : Hp} (k : Q (.int (if b = true then x else y)) H) : if b = true then Q (.int x) H else Q (.int y) H := by cases b <;> exact k
end L3
namespace L3
open PySem PySem.Spec PyProof.Rows L2 He
theorem cut_to (xs : List V) (k : Nat) : cutV xs none (some (k : Int)) = xs.take k := by
  unfold cutV
  rw [HT.sIx_none, HT.sIx_nat, List.drop_zero, Nat.sub_zero]
  by_cases h : k ≤ xs.length
  · rw [Nat.min_eq_left h]
  · rw [Nat.min_eq_right (by omega), List.take_of_length_le (Nat.le_refl _), List.take_of_length_le (by omega)]
theorem cut_from (xs : List V) (k : Nat) : cutV xs (some (k : Int)) none = xs.drop k := by
  unfold cutV
  rw [HT.sIx_none, HT.sIx_nat]
  by_cases h : k ≤ xs.length
  · rw [Nat.min_eq_left h, List.take_of_length_le (by rw [List.length_drop] <;> omega)]
  · rw [Nat.min_eq_right (Nat.le_of_lt (Nat.lt_of_not_le h)), List.drop_of_length_le (Nat.le_refl _), List.drop_of_length_le (Nat.le_of_lt (Nat.lt_of_not_le h)), List.take_nil]
theorem cut_at (xs : List V) (i j : Nat) : cutV xs (some (i : Int)) (some (j : Int)) = (xs.drop i).take (j - i) := by
  unfold cutV
  rw [HT.sIx_nat, HT.sIx_nat]
  by_cases h : i ≤ xs.length
  · rw [Nat.min_eq_left h]
    by_cases h2 : j ≤ xs.length
    · rw [Nat.min_eq_left h2]
    · rw [Nat.min_eq_right (by omega), List.take_of_length_le (by rw [List.length_drop] <;> omega), List.take_of_length_le (by rw [List.length_drop] <;> omega)]
  · rw [Nat.min_eq_right (a := i) (Nat.le_of_lt (Nat.lt_of_not_le h)), List.drop_of_length_le (Nat.le_refl _), List.drop_of_length_le (Nat.le_of_lt (Nat.lt_of_not_le h)), List.take_nil, List.take_nil]
theorem range_ints (ns : List Int) (g : Int → Int) : (List.range ns.length).map (fun i => V.int (g (ns.getD i 0))) = (ns.map g).map V.int := by
  apply List.ext_getElem
  · simp
  · intro i h1 h2
    simp at h1 h2 ⊢
    simp [h1]
theorem ints_get {ns : List Int} {i : Nat} {x : V} (h : (ns.map V.int)[i]? = some x) : i < ns.length ∧ x = .int (ns.getD i 0) := by
  rw [List.getElem?_map] at h
  cases e : ns[i]? with
  | none => rw [e] at h; cases h
  | some z =>
    rw [e] at h
    obtain ⟨h1, h2⟩ := List.getElem?_eq_some_iff.mp e
    refine ⟨h1, ?_⟩
    have : x = .int z := (Option.some.inj h).symm
    rw [this, List.getD_eq_getElem?_getD, e]
    rfl
end L3
namespace L3
open PySem PySem.Spec PyProof.Rows L2 He
/-- x if c else y, both written ints; if b then .. -/
def IfI (b : Bool) (x y : Int) (H : Hp) (Q : VK) : Prop := Q (.int (if b = true then x else y)) H
theorem mono_ifC {b : Bool} {x y : Int} {H : Hp} {Q : VK} (k : IfI b x y H Q) : if b = true then tC (.int x) [] H Q else tC (.int y) [] H Q := by cases b <;> exact k
def tIfC (c : TT) (x y : Int) : TE := fun σ H Q => c σ H fun b H1 => IfI b x y H1 Q
theorem r_ifI {b : Bool} {x y : Int} {H : Hp} {Q : VK} (k : Q (.int (if b = true then x else y)) H) : IfI b x y H Q := k
theorem tIfC_eq (c : TT) (x y : Int) : tIfC c x y = tIf c (tC (.int x)) (tC (.int y)) := by
  funext σ H Q
  unfold tIfC tIf IfI tC
  have e : (fun (b : Bool) (H1 : Hp) => Q (.int (if b = true then x else y)) H1) = fun b H1 => if b = true then Q (.int x) H1 else Q (.int y) H1 := by
    funext b H1
    cases b <;> rfl
  rw [e]
theorem r_ifC {c : TT} {x y : Int} {σ : L2.St} {H : Hp} {Q : VK} (k : c σ H fun b H1 => IfI b x y H1 Q) : tIf c (tC (.int x)) (tC (.int y)) σ H Q := by
  rw [← tIfC_eq]
  exact k
end L3
set_option maxRecDepth 100000
set_option maxHeartbeats 4000000
/-! CmG: sources of draws; what stays when one object changes. -/
namespace L3
open PySem PySem.Spec PyProof.Rows L2 He
/-- a source of draws: three ints -/
def Src (H : Hp) (p : Addr) : Prop := ∃ a b c : Int, H p = some (.lst [.int a, .int b, .int c])
theorem Src.ext {H H' : Hp} {p : Addr} (s : Src H p) (e : Ext H H') : Src H' p := by obtain ⟨a, b, c, h⟩ := s; exact ⟨a, b, c, e _ _ h⟩
def spSource (K : PySem.W.Frag) : Sp := fun vs H Q _ => ∃ (a : Addr) (ns : List Int) (t : Nat), vs = [.ref a, .int t] ∧ SqL K H a (ns.map V.int) ∧ ns.length ≤ 63 ∧ t ≤ 1000 ∧ ∀ p H', H p = none → Ext H H' → Src H' p → Q (.ref p) H'
theorem pos128 : (0 : Int) < 10 ^ (64 : Int).toNat * 10 ^ (64 : Int).toNat := by decide
theorem bd128 : ((10 : Int) ^ (64 : Int).toNat).natAbs < 2 ^ 250 := by decide
theorem bd31 (x : Int) : 0 ≤ x % 2147483629 ∧ x % 2147483629 < 2147483629 := ⟨Int.emod_nonneg _ (by decide), Int.emod_lt_of_pos _ (by decide)⟩
/-- a draw below many: any number below it, only the source changes -/
def spPick : Sp := fun vs H Q _ => ∃ (p : Addr) (m : Int), vs = [.ref p, .int m] ∧ Src H p ∧ 0 < m ∧ m < 2 ^ 250 ∧ ∀ r H', 0 ≤ r → r < m → Src H' p → (∀ b, b ≠ p → H' b = H b) → Q (.int r) H'
/-- an address b of the heap stays when only p changes -/
theorem stay {H H' : Hp} {p b : Addr} {o : HO} (n : ∀ b, b ≠ p → H' b = H b) (hb : b ≠ p) (h : H b = some o) : H' b = some o := (n b hb).trans h
/-- all but p as it was -/
def But (p : Addr) (H H' : Hp) : Prop := ∀ b o, b ≠ p → H b = some o → H' b = some o
theorem But.rfl {p : Addr} {H : Hp} : But p H H := fun _ _ _ h => h
theorem But.of {p : Addr} {H H' : Hp} (n : ∀ b, b ≠ p → H' b = H b) : But p H H' := fun b o hb h => (n b hb).trans h
theorem But.ext {p : Addr} {H H1 H2 : Hp} (b : But p H H1) (e : Ext H1 H2) : But p H H2 := fun c o hc h => e _ _ (b c o hc h)
theorem ext_but {p : Addr} {H H1 : Hp} (e : Ext H H1) : But p H H1 := fun c o _ h => e _ _ h
theorem But.trans {p : Addr} {H H1 H2 : Hp} (a : But p H H1) (b : But p H1 H2) : But p H H2 := fun c o hc h => b c o hc (a c o hc h)
theorem But.mut {p q : Addr} {H H1 H2 : Hp} (a : But p H H1) (hq : H q = none) (n : ∀ b, b ≠ q → H2 b = H1 b) : But p H H2 := fun c o hc h => (n c (ne_of_none h hq)).trans (a c o hc h)
theorem But.l {K : PySem.W.Frag} {p a : Addr} {H H' : Hp} {xs : List V} (b : But p H H') (ha : a ≠ p) (h : SqL K H a xs) : SqL K H' a xs := by
  rcases h with (h | ⟨o, h⟩) | h
  · exact .inl (.inl (b _ _ ha h))
  · exact .inl (.inr ⟨o, b _ _ ha h⟩)
  · exact .inr h
theorem sq_ne {K : PySem.W.Frag} {p a : Addr} {H : Hp} {xs ys : List V} (h : H p = some (.lst ys)) (ha : SqL K H a xs) (e : xs ≠ ys) : a ≠ p ∨ ∃ o, K.lookup a = some o := by
  rcases ha with (q | ⟨o, q⟩) | ⟨o, _, _, q, _⟩
  · refine .inl fun z => ?_
    rw [z, h] at q
    exact e (by injection (Option.some.inj q) with z; exact z.symm)
  · refine .inl fun z => ?_
    rw [z, h] at q
    cases q
  · exact .inr ⟨o, q⟩
theorem src_ne {p q : Addr} {H : Hp} (s : Src H p) (h : H q = none) : p ≠ q := by
  obtain ⟨a, b, c, e⟩ := s
  exact ne_of_none e h
theorem eraseIdx_perm {α : Type} : ∀ {xs : List α} {j : Nat} {x : α}, xs[j]? = some x → (x :: xs.eraseIdx j).Perm xs
  | [], j, x, h => by simp at h
  | y :: xs, 0, x, h => by simp at h; subst h; exact .refl _
  | y :: xs, j + 1, x, h => by
    have h' : xs[j]? = some x := by simpa using h
    show (x :: y :: xs.eraseIdx j).Perm (y :: xs)
    exact (List.Perm.swap _ _ _).trans ((eraseIdx_perm h').cons y)
def spShuf (K : PySem.W.Frag) : Sp := fun vs H Q _ => ∃ (p t : Addr) (xs : List V), vs = [.ref p, .ref t] ∧ Src H p ∧ SqL K H t xs ∧ xs.length ≤ 10000 ∧
  ∀ q H' (ys : List V), H q = none → ys.Perm xs → Src H' p → H' q = some (.lst ys) → But p H H' → Q (.ref q) H'
end L3
set_option maxRecDepth 100000
set_option maxHeartbeats 4000000
/-! CmH: data of any depth; isinstance of it. -/
namespace L3
open PySem PySem.Spec PyProof.Rows L2 He
theorem pe_ty {X : Cx} {n : String} {pos : Pos} (hm : X.mg (Str.ofString n) = none) (hg : Gl X (Str.ofString n) := by rfl) (hv : bootBuiltins (Str.ofString n) = some (.type n) := by decide +kernel) (hn : Str.ofString n ≠ "__name__" := by decide) (hd : (Str.ofString n == ("__debug__" : Str)) = false := by decide) :
    PE X (.Name (Str.ofString n) pos) (tC (.ty n)) := pe_bltn hg hm hv rfl hn hd
/-- a def's promise that asks what cannot be -/
theorem calG_false {P : Program} {w : World} {K : PySem.W.Frag} {mg : Str → Option Value} {base : Heap} {k : Nat} {x : Str} {st : Stmt} {ps : List Str} (hg : mg x = some (.ref (ga K x))) (D : ∃ fd, FunD K x x (defArgs st) (defBody st) (defScope st) [] [] (ga K x) fd)
    (hb : ∀ (dV kV doc pm : Value) (an : Option Addr) (cdv ct : Value) (us : List Value), us.length = ps.length → bindArgs (PySem.W.fnOf x x (defArgs st) (defBody st) (defScope st) .none kV doc pm an cdv ct) ⟨us, []⟩ = pure (ps.zip us)) : CalG P w K mg base k x ps (fun _ _ _ _ => False) := by
  obtain ⟨fd, F⟩ := D
  exact ⟨hg, ⟨fd, ⟨fun _ _ _ _ z => z.elim, fun _ _ _ _ _ _ _ _ _ _ _ _ _ z => z.elim⟩, F.bindsN fun kV doc pm an cdv ct us hl => hb .none kV doc pm an cdv ct us hl⟩, F.kp⟩
section
variable {K : PySem.W.Frag} {H H' : Hp}
mutual
theorem Ext.dp (e : Ext H H') : ∀ (d : PyData) {x : V}, Dp K H x d → Dp K H' x d
  | .none, _, .non => .non
  | .bool b, _, .bl _ => .bl b
  | .int i, _, .int _ => .int i
  | .str s, _, .str _ => .str s
  | .list ds, _, .lst h hs => .lst (e.l h) (Ext.dps e ds hs)
  | .tuple ds, _, .tup h hs => .tup (e.tu h) (Ext.dps e ds hs)
theorem Ext.dps (e : Ext H H') : ∀ (ds : List PyData) {xs : List V}, DpAll K H xs ds → DpAll K H' xs ds
  | [], _, .nil => .nil
  | d :: ds, _, .cons h hs => .cons (Ext.dp e d h) (Ext.dps e ds hs)
end
theorem dps_len : ∀ {xs : List V} {ds : List PyData}, DpAll K H xs ds → xs.length = ds.length
  | _, _, .nil => rfl
  | _, _, .cons _ h => by rw [List.length_cons, List.length_cons, dps_len h]
theorem dps_get : ∀ {xs : List V} {ds : List PyData} {i : Nat} {d : PyData}, DpAll K H xs ds → ds[i]? = some d → ∃ x, xs[i]? = some x ∧ Dp K H x d
  | _, _, i, d, .nil, e => by simp at e
  | _, _, 0, d, .cons h _, e => by simp at e; subst e; exact ⟨_, rfl, h⟩
  | _, _, i + 1, d, .cons _ h, e => by
    obtain ⟨x, e1, h1⟩ := dps_get (i := i) h (by simpa using e)
    exact ⟨x, by simpa using e1, h1⟩
theorem dps_ints : ∀ (ns : List Int), DpAll K H (ns.map V.int) (ns.map PyData.int)
  | [] => .nil
  | n :: ns => .cons (.int n) (dps_ints ns)
theorem dps_append : ∀ {xs ys : List V} {ds es : List PyData}, DpAll K H xs ds → DpAll K H ys es → DpAll K H (xs ++ ys) (ds ++ es)
  | _, _, _, _, .nil, h => h
  | _, _, _, _, .cons h t, g => .cons h (dps_append t g)
/-- the type's name -/
def tyD : PyData → String
  | .none => "NoneType"
  | .bool _ => "bool"
  | .int _ => "int"
  | .str _ => "str"
  | .list _ => "list"
  | .tuple _ => "tuple"
  | .dict _ => "dict"
theorem dp_ty {x : V} {d : PyData} (h : Dp K H x d) : TyX K H x (.type (tyD d)) := by
  cases h with
  | non => exact .base .non
  | bl b => exact .base (.bl b)
  | int i => exact .base (.int i)
  | str s => exact .base (.str s)
  | lst h _ =>
    rcases h with (h | ⟨o, h⟩) | ⟨o, _, _, h, c, _⟩
    · exact .base (.lst h)
    · exact .base (.frz h)
    · exact .kList h c
  | tup h _ =>
    rcases h with (h | ⟨o, h⟩) | ⟨o, _, _, h, c, _⟩
    · exact .base (.tup h)
    · exact .fTuple h
    · exact .kTuple h c
def tys : List String := ["NoneType", "bool", "int", "str", "list", "tuple"]
def isB (a b : String) : Bool := decide (a = b) || (decide (a = "bool") && decide (b = "int"))
theorem kit6 : ∀ a ∈ tys, ∀ b ∈ ["list", "tuple", "dict", "bool", "str", "int"], kitB a b = some (isB a b) := by decide +kernel
theorem ty_in {x : V} {d : PyData} (h : Dp K H x d) : tyD d ∈ tys := by cases h <;> simp [tyD, tys]
theorem kit_is {x : V} {d : PyData} (h : Dp K H x d) {b : String} (hb : b ∈ ["list", "tuple", "dict", "bool", "str", "int"]) : PySem.W.kitOne K (.type (tyD d)) (.type b) = some (isB (tyD d) b) := kit_ty (kit6 _ (ty_in h) _ hb)
variable {Q : VK}
/-- isinstance(x, T) -/
theorem r_isi {x : V} {d : PyData} {b : String} (h : Dp K H x d) (hb : b ∈ ["list", "tuple", "dict", "bool", "str", "int"]) (k : Q (.bl (isB (tyD d) b)) H) : rIsi K [x, .ty b] H Q := ⟨x, _, _, _, _, rfl, .ty b, dp_ty h, kit_is h hb, k⟩
theorem kitAny2 {a b c : String} {p q : Bool} (h1 : PySem.W.kitOne K (.type a) (.type b) = some p) (h2 : PySem.W.kitOne K (.type a) (.type c) = some q) : PySem.W.kitAny K (.type a) [.type b, .type c] = some (p || q) := by
  unfold PySem.W.kitAny
  rw [h1]
  cases p
  · show PySem.W.kitAny K (.type a) [.type c] = some q
    unfold PySem.W.kitAny
    rw [h2]
    cases q <;> rfl
  · rfl
theorem kitAny3 {a b c d : String} {p q r : Bool} (h1 : PySem.W.kitOne K (.type a) (.type b) = some p) (h2 : PySem.W.kitOne K (.type a) (.type c) = some q) (h3 : PySem.W.kitOne K (.type a) (.type d) = some r) : PySem.W.kitAny K (.type a) [.type b, .type c, .type d] = some (p || (q || r)) := by
  unfold PySem.W.kitAny
  rw [h1]
  cases p
  · show PySem.W.kitAny K (.type a) [.type c, .type d] = some (q || r)
    exact kitAny2 h2 h3
  · rfl
/-- isinstance(x, (T, U)) -/
theorem r_isi2 {x : V} {d : PyData} {b c : String} {t : Addr} (h : Dp K H x d) (ht : H t = some (.tup [.ty b, .ty c])) (hb : b ∈ ["list", "tuple", "dict", "bool", "str", "int"]) (hc : c ∈ ["list", "tuple", "dict", "bool", "str", "int"])
    (k : Q (.bl (isB (tyD d) b || isB (tyD d) c)) H) : rIsiT K [x, .ref t] H Q := ⟨x, t, _, _, _, _, rfl, ht, .cons (.ty b) (.cons (.ty c) .nil), dp_ty h, kitAny2 (kit_is h hb) (kit_is h hc), k⟩
theorem r_isi3 {x : V} {d : PyData} {b c e : String} {t : Addr} (h : Dp K H x d) (ht : H t = some (.tup [.ty b, .ty c, .ty e])) (hb : b ∈ ["list", "tuple", "dict", "bool", "str", "int"]) (hc : c ∈ ["list", "tuple", "dict", "bool", "str", "int"]) (he : e ∈ ["list", "tuple", "dict", "bool", "str", "int"])
    (k : Q (.bl (isB (tyD d) b || (isB (tyD d) c || isB (tyD d) e))) H) : rIsiT K [x, .ref t] H Q := ⟨x, t, _, _, _, _, rfl, ht, .cons (.ty b) (.cons (.ty c) (.cons (.ty e) .nil)), dp_ty h, kitAny3 (kit_is h hb) (kit_is h hc) (kit_is h he), k⟩
theorem r_all {p : Addr} {bs : List Bool} (h : SqL K H p (bs.map V.bl)) (k : Q (.bl (bs.all id)) H) : rAll K [.ref p] H Q := ⟨p, bs, rfl, h, k⟩
theorem r_any {p : Addr} {bs : List Bool} (h : SqL K H p (bs.map V.bl)) (k : Q (.bl (bs.any id)) H) : rAny K [.ref p] H Q := ⟨p, bs, rfl, h, k⟩
theorem r_isN1 {x : V} (k : Q (.bl (decide (x = .non))) H) : rIsN x .non H Q := ⟨rfl, k⟩
theorem r_notN1 {x : V} (k : Q (.bl (!decide (x = .non))) H) : rNotN x .non H Q := ⟨rfl, k⟩
end
end L3
set_option maxRecDepth 100000
set_option maxHeartbeats 4000000
/-! CmI: the rules with the written part named, so that a reading within a comprehension does not hang on its frame. -/
namespace L3
open PySem PySem.Spec PyProof.Rows L2 He
section
variable {X : Cx} {K : PySem.W.Frag}
theorem ixK (hK : X.K = K := by rfl) : IxR X (rAt K) := hK ▸ ix_at
theorem plusK (hK : X.K = K := by rfl) : OpR X (binaryOp .Add) (rPlus K) := hK ▸ op_plus
theorem sameK (hu : X.A.units + 64 < cLine) (hK : X.K = K := by rfl) : OpR X (compareOp .Eq) (rSame K) := hK ▸ op_same hu
theorem otherK (hu : X.A.units + 64 < cLine) (hK : X.K = K := by rfl) : OpR X (compareOp .NotEq) (rOther K) := hK ▸ op_other hu
theorem inK (hK : X.K = K := by rfl) : OpR X (compareOp .In) (rIn K false) := hK ▸ op_in_seq
theorem notInK (hK : X.K = K := by rfl) : OpR X (compareOp .NotIn) (rIn K true) := hK ▸ op_notIn_seq
theorem lenK (hK : X.K = K := by rfl) : CallR X (.builtin "len") (LenS K) := hK ▸ cr_len
theorem isiK (hK : X.K = K := by rfl) : CallR X (.builtin "isinstance") (rIsi K) := hK ▸ call_isi
theorem isiTK (hK : X.K = K := by rfl) : CallR X (.builtin "isinstance") (rIsiT K) := hK ▸ call_isiT
theorem listK (hK : X.K = K := by rfl) : CallR X (.type "list") (ListS K) := hK ▸ cr_list
def TupS (K : PySem.W.Frag) : List V → Hp → VK → Prop := fun xs H Q => ∃ p ys, xs = [.ref p] ∧ ((SqL K H p ys ∧ ∀ l, H l = none → Q (.ref l) (upd H l (.tup ys))) ∨ (SqT K H p ys ∧ Q (.ref p) H))
theorem tupK (hK : X.K = K := by rfl) : CallR X (.type "tuple") (TupS K) := hK ▸ call_tuple_of
theorem sumK (hc : X.calm = true) (hK : X.K = K := by rfl) : CallR X (.builtin "sum") (rSum K) := hK ▸ cr_sum hc
theorem maxK (hc : X.calm = true) (hK : X.K = K := by rfl) : CallR X (.builtin "max") (rMax K) := hK ▸ cr_max hc
theorem minK (hc : X.calm = true) (hK : X.K = K := by rfl) : CallR X (.builtin "min") (rMin K) := hK ▸ cr_min hc
theorem allK (hc : X.calm = true) (hK : X.K = K := by rfl) : CallR X (.builtin "all") (rAll K) := hK ▸ cr_all hc
theorem anyK (hc : X.calm = true) (hK : X.K = K := by rfl) : CallR X (.builtin "any") (rAny K) := hK ▸ cr_any hc
theorem sortedK (hK : X.K = K := by rfl) : CallR X (.builtin "sorted") (rSortedI K) := hK ▸ cr_sortedI
theorem slK (hK : X.K = K := by rfl) : SlR X (rSlL K) := hK ▸ sl_list
theorem kdictK (hK : X.K = K := by rfl) : IxR X (rIxD K X.w) := hK ▸ ix_kdict
theorem getLK (hK : X.K = K := by rfl) : PGet X (rGetL K) := hK ▸ get_list
theorem indexK (hK : X.K = K := by rfl) : MtR X "list.index" (rIndex K) := hK ▸ mt_index
theorem peBM {T : String} {r : V → List V → Hp → VK → Prop} {to : TE} {t : TA} {e : Expr} (h : PE X e (tBM X.K T r to t)) (hK : X.K = K := by rfl) : PE X e (tBM K T r to t) := hK ▸ h
theorem peBM0 {T : String} {r : V → List V → Hp → VK → Prop} {to : TE} {e : Expr} (h : PE X e (tBM0 X.K T r to)) (hK : X.K = K := by rfl) : PE X e (tBM0 K T r to) := hK ▸ h
theorem piL {tg l : Expr} {tl : TE} (hl : PE X l tl) (hK : X.K = K := by rfl) : PI X tg l (iList K tl) := hK ▸ pi_list hl
theorem piT {tg l : Expr} {tl : TE} (hl : PE X l tl) (hK : X.K = K := by rfl) : PI X tg l (iTup K tl) := hK ▸ pi_tup hl
theorem pgT {es : List Expr} {k : Nat} {t : TGs} {n : Nat} {pos : Pos} (h : PG X (.Tuple es k pos) (gTup X.K n t)) (hK : X.K = K := by rfl) : PG X (.Tuple es k pos) (gTup K n t) := hK ▸ h
theorem pgL {es : List Expr} {k : Nat} {t : TGs} {n : Nat} {pos : Pos} (h : PG X (.Tuple es k pos) (gLst X.K n t)) (hK : X.K = K := by rfl) : PG X (.Tuple es k pos) (gLst K n t) := hK ▸ h
end
end L3
namespace L3
open PySem PySem.Spec PyProof.Rows L2 He
section
variable {K : PySem.W.Frag} {H H' : Hp} {Q : VK}
theorem ite_nt {A B : Prop} (h : B) : if (!true) = true then A else B := h
theorem ite_nf {A B : Prop} (h : A) : if (!false) = true then A else B := h
/-- a list or a tuple of these -/
def Seq (K : PySem.W.Frag) (H : Hp) (a : Addr) (xs : List V) : Prop := SqL K H a xs ∨ SqT K H a xs
theorem Ext.sq {a : Addr} {xs : List V} (e : Ext H H') (h : Seq K H a xs) : Seq K H' a xs := h.elim (fun h => .inl (e.l h)) fun h => .inr (e.tu h)
theorem r_lenA {p : Addr} {ys : List V} {n : Int} (h : Seq K H p ys) (e : (ys.length : Int) = n) (k : Q (.int n) H) : LenS K [.ref p] H Q := ⟨p, ys, rfl, h, by rw [e]; exact k⟩
theorem r_atA {p : Addr} {xs : List V} {i : Int} {v : V} (h : Seq K H p xs) (e : atI xs i = some v) (k : Q v H) : rAt K (.ref p) (.int i) H Q := h.elim (fun h => r_atL h e k) fun h => r_atT h e k
def itemsD : PyData → List PyData
  | .list ds => ds
  | .tuple ds => ds
  | _ => []
theorem dp_seq {x : V} {d : PyData} (h : Dp K H x d) (c : (isB (tyD d) "list" || isB (tyD d) "tuple") = true) : ∃ a xs, x = .ref a ∧ Seq K H a xs ∧ DpAll K H xs (itemsD d) := by
  cases h with
  | lst h hs => exact ⟨_, _, rfl, .inl h, hs⟩
  | tup h hs => exact ⟨_, _, rfl, .inr h, hs⟩
  | _ => simp [isB, tyD] at c
/-- n deep at most, each list short -/
def smallD : Nat → PyData → Prop
  | 0, _ => False
  | n + 1, d => (itemsD d).length ≤ 100000 ∧ ∀ e ∈ itemsD d, smallD n e
theorem small_int (n : Nat) (i : Int) : smallD (n + 1) (.int i) := ⟨Nat.zero_le _, fun _ h => absurd h (List.not_mem_nil)⟩
theorem small_str (n : Nat) (i : Str) : smallD (n + 1) (.str i) := ⟨Nat.zero_le _, fun _ h => absurd h (List.not_mem_nil)⟩
theorem small_bool (n : Nat) (i : Bool) : smallD (n + 1) (.bool i) := ⟨Nat.zero_le _, fun _ h => absurd h (List.not_mem_nil)⟩
theorem small_none (n : Nat) : smallD (n + 1) .none := ⟨Nat.zero_le _, fun _ h => absurd h (List.not_mem_nil)⟩
theorem small_ints (n : Nat) {ns : List Int} (h : ns.length ≤ 100000) : smallD (n + 2) (.list (ns.map PyData.int)) := ⟨by show (ns.map PyData.int).length ≤ _; rw [List.length_map]; exact h, fun e he => by
  obtain ⟨i, _, rfl⟩ := List.mem_map.mp he
  exact small_int n i⟩
theorem small_tup {n : Nat} {ds : List PyData} (h : ds.length ≤ 100000) (k : ∀ e ∈ ds, smallD n e) : smallD (n + 1) (.tuple ds) := ⟨h, k⟩
theorem small_list {n : Nat} {ds : List PyData} (h : ds.length ≤ 100000) (k : ∀ e ∈ ds, smallD n e) : smallD (n + 1) (.list ds) := ⟨h, k⟩
theorem small_mono : ∀ {n m : Nat} {d : PyData}, n ≤ m → smallD n d → smallD m d
  | 0, _, _, _, h => h.elim
  | n + 1, m + 1, d, hm, h => ⟨h.1, fun e he => small_mono (by omega) (h.2 e he)⟩
/-- the same data twice -/
def spSame (K : PySem.W.Frag) (n : Nat) : Sp := fun vs H Q _ => ∃ (x y : V) (d : PyData), vs = [x, y] ∧ Dp K H x d ∧ Dp K H y d ∧ smallD n d ∧ ∀ H', Ext H H' → Q (.bl true) H'
theorem dp_flat {x : V} {d : PyData} (h : Dp K H x d) (c : (isB (tyD d) "list" || isB (tyD d) "tuple") = false) : (d = .none ∧ x = .non) ∨ ((isB (tyD d) "bool" || (isB (tyD d) "int" || isB (tyD d) "str")) = true ∧ x ≠ .non ∧ scal x x = true) := by
  cases h with
  | lst h hs => simp [isB, tyD] at c
  | tup h hs => simp [isB, tyD] at c
  | non => exact .inl ⟨rfl, rfl⟩
  | bl b => exact .inr ⟨by simp [isB, tyD], by simp, rfl⟩
  | int b => exact .inr ⟨by simp [isB, tyD], by simp, rfl⟩
  | str b => exact .inr ⟨by simp [isB, tyD], by simp, rfl⟩
theorem dp_det {x y : V} {d : PyData} (hx : Dp K H x d) (hy : Dp K H y d) (c : (isB (tyD d) "list" || isB (tyD d) "tuple") = false) : x = y := by
  cases hx <;> cases hy <;> first | rfl | simp [isB, tyD] at c
theorem dp_nodict {x : V} {d : PyData} (h : Dp K H x d) : isB (tyD d) "dict" = false := by cases h <;> simp [isB, tyD]
theorem bools_all (n : Nat) : ((List.range n).map fun _ => true).all id = true := by simp
theorem map_bl (n : Nat) : (List.range n).map (fun _ => V.bl true) = ((List.range n).map fun _ => true).map V.bl := by simp
end
end L3
namespace L3
open PySem PySem.Spec PyProof.Rows L2 He
/-- up to the line of sizes -/
theorem LcP.pushB {H1 H' H4 : Hp} {Dl : Addr} {f : Nat → V} {i : Nat} {y : V} (p : LcP H1 Dl f i H') (hD : H1 Dl = none) (hi : i < 16777216) (e : Ext H' H4) (ey : y = f i) : ∃ acc, H4 Dl = some (.lst acc) ∧ acc.length < sizeLine ∧ LcP H1 Dl f (i + 1) (upd H4 Dl (.lst (acc ++ [y]))) := by
  refine ⟨_, e _ _ p.d, ?_, Ext.mut (p.e.trans e) hD, ?_⟩
  · rw [List.length_map, List.length_range, sizeLine_eq]
    exact hi
  · rw [upd_same, List.range_succ, List.map_append, ey]
    rfl
end L3
namespace L3
open PySem PySem.Spec PyProof.Rows L2 He
/-! ### the def that tells an error, called in a suite -/
theorem Kits.yes {K : PySem.W.Frag} {b : Str} {xs : List Str} (k : Kits K b xs) {x : Str} (hx : x ∈ xs) : PySem.W.kitOne K (.ref (ga K x)) (.ref (ga K x)) = some true := by
  have h := k.kit x hx x hx
  rwa [show decide (x = x) = true from decide_eq_true rfl] at h
theorem Kits.no {K : PySem.W.Frag} {b : Str} {xs : List Str} (k : Kits K b xs) {x y : Str} (hx : x ∈ xs) (hy : y ∈ xs) (n : x ≠ y) : PySem.W.kitOne K (.ref (ga K x)) (.ref (ga K y)) = some false := by
  have h := k.kit x hx y hy
  rwa [show decide (x = y) = false from decide_eq_false n] at h
theorem r_isP {K : PySem.W.Frag} {D a dd C : Addr} {b : Bool} {fs : List (Str × V)} {H : Hp} {Q : VK} (hd : H dd = some (.xd fs)) (hk : PySem.W.kitOne K (.ref D) (.ref C) = some b) (k : Q (.bl b) H) : rIsP K D a dd [.ref a, .ref C] H Q :=
  ⟨_, .ref C, b, fs, rfl, hd, fun _ r => r, hk, k⟩
theorem r_isPV {K : PySem.W.Frag} {D a dd : Addr} {n : String} {b : Bool} {fs : List (Str × V)} {H : Hp} {Q : VK} (hd : H dd = some (.xd fs)) (hk : PySem.W.kitOne K (.ref D) (.type n) = some b) (k : Q (.bl b) H) : rIsP K D a dd [.ref a, .ty n] H Q :=
  ⟨_, .type n, b, fs, rfl, hd, fun _ r => r, hk, k⟩
theorem r_xp {D a dd : Addr} {f : Str} {te : TE} {σ : L2.St} {H : Hp} {Q : VK} (k : te σ H fun x H1 => x = .ref a ∧ ∃ (fs : List (Str × V)) (v : V), H1 dd = some (.xd fs) ∧ fs.lookup f = some v ∧ Q v H1) : tXp D a dd f te σ H Q := k
/-- what a def called in a suite promises of the handled error: its place, its class, its dict -/
abbrev SpF := Addr → Value → Option Addr → Sp
def onP (s : SpF) : SpP := fun p => s p.1 p.2.cls p.2.dict
/-- tells of an error of the class x: the tuple of its name and its fields -/
def spFlt (K : PySem.W.Frag) (x : Str) (fs : List Str) : SpF := fun a cls d vs H Q _ => ∃ (dd : Addr) (kv : List (Str × V)) (us : List V), vs = [.ref a] ∧ (cls = .ref (ga K x) ∧ d = some dd) ∧ H dd = some (.xd kv) ∧ fs.map (fun f => kv.lookup f) = us.map some ∧
  ∀ q H', H q = none → Ext H H' → H' q = some (.tup (.str x :: us)) → Q (.ref q) H'
def spFlts (K : PySem.W.Frag) (l : List (Str × List Str)) : SpF := fun a cls d vs H Q E => ∃ x ∈ l, spFlt K x.1 x.2 a cls d vs H Q E
theorem fnP_any {P : Program} {w : World} {K : PySem.W.Frag} {mg : Str → Option Value} {base : Heap} {CX : CXT} {k : Nat} {f : Addr} {fd : FuncData} {ps : List Str} {l : List (Str × List Str)} (h : ∀ x ∈ l, FnP P w K mg base CX k f fd ps (onP (spFlt K x.1 x.2))) :
    FnP P w K mg base CX k f fd ps (onP (spFlts K l)) :=
  ⟨fun p vs H Q E ⟨x, hx, z⟩ => (h x hx).len p vs H Q E z, fun p A outer s H args us vs Q E h1 h2 h3 h4 h5 h6 ⟨x, hx, z⟩ => (h x hx).run p A outer s H args us vs Q E h1 h2 h3 h4 h5 h6 z⟩
structure FaultG (P : Program) (w : World) (K : PySem.W.Frag) (mg : Str → Option Value) (base : Heap) (l : List (Str × List Str)) : Prop where
  g : mg "_law_fault" = some (.ref (ga K "_law_fault"))
  kp : PySem.W.keepIn K (.ref (ga K "_law_fault")) = true
  ok : ∃ fd, FnP P w K mg base (L2N.CX P w) 1 (ga K "_law_fault") fd ["error"] (onP (spFlts K l)) ∧ Binds K fd ["error"] []
theorem hotOf {A : Around} {a : Addr} {oe : Obj} {cls : Value} {d : Option Addr} (hz : L2N.Zn cls d oe) (hf : ∃ vs, oe.data = .fields vs) : L2H.Hot1 (A.mark (some (.ref a))) (a, oe) := by
  obtain ⟨vs, e⟩ := hf
  exact ⟨rfl, vs, e, hz.2.2 vs e⟩
/-- _law_fault(error) in the suite -/
theorem pe_fault {X : Cx} {l : List (Str × List Str)} {a : Addr} {oe : Obj} {cls : Value} {d : Option Addr} {q pos : Pos} {e : Expr} {te : TE} (c : FaultG X.prog X.w X.K X.mg X.base l) (hr : L2H.RoomH 1 X.A) (hz : L2N.Zn cls d oe) (hot : L2H.Hot1 X.A (a, oe)) (hp : (a, oe) ∈ X.pn) (he : PE X e te)
    (hg : Gl X "_law_fault" := by rfl) (h2 : starEach [e] X.env = (false, eval e X.env) :: starEach [] X.env := by rfl) (hpl : (backTo pos (starEach ([] : List Expr) X.env)).any (·.1) = false := by rfl) :
    PE X (.Call (.Name "_law_fault" q) [e] [] pos) (tCallS (spFlts X.K l a cls d) (WE fun _ _ _ _ => False) (tCons te tNil)) := by
  obtain ⟨fd, F, b⟩ := c.ok
  have key := pe_callP (p := (a, oe)) (q := q) (pos := pos) F hr hot hp hg c.g c.kp b passN (pa_cons he pa_nil (hs := h2)) (by decide) h2 hpl
  obtain ⟨e1, e2, _⟩ := hz
  unfold onP at key
  dsimp only at key
  rw [e1, e2] at key
  exact key
/-- one clause «except X as n», X the base of the module's errors -/
theorem r_wAs {K : PySem.W.Frag} {c : Value} {i : Nat} {ts : Addr → Value → Option Addr → TS} {Wout : WX} {D : Ends} {cls : Value} {d : Option Addr} {σ : L2.St} {H : Hp} (e : PySem.W.exmOne K cls c = some true)
    (k : ∀ a, H a = none → ts a cls d ⟨fun σ' H' => D.nx (σ'.set i none) H', D.rt, fun σ' H' => D.bk (σ'.set i none) H', fun σ' H' => D.ct (σ'.set i none) H'⟩ (σ.set i (some (.ref a))) H) : wAs K c i ts Wout D cls d σ H :=
  ⟨true, e, fun _ => k, fun z => nomatch z⟩
end L3
namespace L3
open PySem PySem.Spec PyProof.Rows L2 He
/-- what a try's body is run with -/
structure TryZ (X : Cx) (W : L2.WX) where
  pn : List (Addr × Obj)
  xe : Value → Shared → Prop
  tk : L2N.Takes (X.tr pn xe) W
  hp : PassesOwn (model X.prog X.w) X.A X.env xe
/-- try: .. except x as n: .., the body's reading free to be found -/
theorem ps_tryZ {X : Cx} {x n : Str} {c : Value} {i : Nat} {body suite : List Stmt} {b₀ : Stmt} {np pos pos' : Pos} {tb : (W : L2.WX) → TryZ X W → TS} {ts : Addr → Value → Option Addr → TS} {Wout : L2.WX}
    (hs : X.stack = X.env :: X.outer) (hf : X.env.frame = some X.env.locals) (hN : X.N.Nodup) (hi : X.N[i]? = some n) (hln : X.env.kindOf n = some .local) (hc : Names X x c) (tk : L2N.Takes X Wout)
    (hb : ∀ (W : L2.WX) (z : TryZ X W), PSs (X.tr z.pn z.xe) body (tb W z))
    (hsu : ∀ (a : Addr) (oe : Obj) (cls : Value) (d : Option Addr) (pn : List (Addr × Obj)), L2N.Zn cls d oe → (∃ vs, oe.data = .fields vs) → PSs (X.suite a ((a, oe) :: pn)) (b₀ :: suite) (ts a cls d)) :
    PS X (.Try body [.ExceptHandler (some (.Name x np)) (some n) (b₀ :: suite) pos'] [] [] pos) (fun D σ H => ∀ z : TryZ X (wAs X.K c i ts Wout D), tb _ z D σ H) :=
  L2N.ps_try_as (tb := fun W D σ H => ∀ z : TryZ X W, tb W z D σ H) hs hf hN hi hln hc tk (fun W pn xe tk hp => ⟨fun pins s σ H D I h => (hb W ⟨pn, xe, tk, hp⟩).run pins s σ H D I (h _)⟩) hsu
end L3
namespace L3
open PySem PySem.Spec PyProof.Rows L2 He
/-- a callee's error: its class, its one field -/
def Bad (K : PySem.W.Frag) (E : XK) (H : Hp) (C what : Str) : Prop := ∀ d H', H d = none → Ext H H' → H' d = some (.xd [("what", .str what)]) → E (.ref (ga K C)) (some d) H'
theorem r_flt1 {K : PySem.W.Frag} {l : List (Str × List Str)} {x f : Str} {a dd : Addr} {v : V} {H : Hp} {Q : VK} {E : XK} (hx : (x, [f]) ∈ l) (hd : H dd = some (.xd [(f, v)])) (k : ∀ q H', H q = none → Ext H H' → H' q = some (.tup [.str x, v]) → Q (.ref q) H') :
    spFlts K l a (.ref (ga K x)) (some dd) [.ref a] H Q E := ⟨(x, [f]), hx, dd, _, [v], rfl, ⟨rfl, rfl⟩, hd, by simp [List.lookup], k⟩
/-- told in the suite -/
theorem bad_tell {K : PySem.W.Frag} {c : Value} {l : List (Str × List Str)} {i : Nat} {Wout : L2.WX} {D : Ends} {σ : L2.St} {H1 : Hp} {C what : Str} (e : PySem.W.exmOne K (.ref (ga K C)) c = some true) (hl : (C, (["what"] : List Str)) ∈ l) (hi : i < σ.length)
    (k : ∀ q H', Ext H1 H' → H' q = some (.tup [.str C, .str what]) → D.rt (.ref q) H') : Bad K (WE (wAs K c i (fun a cls d => tRet (tCallS (spFlts K l a cls d) (WE fun _ _ _ _ => False) (tCons (tVar i) tNil))) Wout D) σ) H1 C what := by
  intro d H' hd e1 h
  refine r_wAs e fun a ha => ?_
  exact ⟨.ref a, by simp [hi], r_flt1 hl h fun q H2 hq e2 h2 => k q H2 (e1.trans e2) h2⟩
end L3
namespace L3
open PySem PySem.Spec PyProof.Rows L2 He
theorem r_chain {r r' : R2} {ta tb tc : TE} {σ : L2.St} {H : Hp} {Q : VK} (k : ta σ H fun x H1 => tb σ H1 fun y H2 => r x y H2 fun z H3 => ∃ k, z = .bl k ∧ (if k = true then tc σ H3 fun w' H4 => r' y w' H4 Q else Q (.bl false) H3)) : tChain r r' ta tb tc σ H Q := k
/-- the script, apart from what changes -/
def Sc (K : PySem.W.Frag) (S : List Addr) (a : Addr) (xs : List V) (H : Hp) : Prop := SqL K H a xs ∧ ((∀ H', SqL K H' a xs) ∨ (a ∉ S ∧ H a ≠ none))
theorem Sc.start {K : PySem.W.Frag} {S : List Addr} {a : Addr} {xs : List V} {H : Hp} (h : SqL K H a xs) (hS : ∀ q ∈ S, H q = none) : Sc K S a xs H := by
  rcases h with (h | ⟨o, h⟩) | h
  · exact ⟨.inl (.inl h), .inr ⟨fun z => (by rw [hS a z] at h; cases h), (by rw [h]; exact fun z => nomatch z)⟩⟩
  · exact ⟨.inl (.inr ⟨o, h⟩), .inr ⟨fun z => (by rw [hS a z] at h; cases h), (by rw [h]; exact fun z => nomatch z)⟩⟩
  · exact ⟨.inr h, .inl fun _ => .inr h⟩
theorem Sc.ext {K : PySem.W.Frag} {S : List Addr} {a : Addr} {xs : List V} {H H' : Hp} (s : Sc K S a xs H) (e : Ext H H') : Sc K S a xs H' :=
  ⟨e.l s.1, s.2.imp id fun ⟨h1, h2⟩ => ⟨h1, by
    cases q : H a with
    | none => exact absurd q h2
    | some o => rw [e _ _ q]; exact fun z => nomatch z⟩⟩
theorem Sc.but {K : PySem.W.Frag} {S : List Addr} {a p : Addr} {xs : List V} {H H' : Hp} (s : Sc K S a xs H) (hp : p ∈ S) (b : But p H H') : Sc K S a xs H' := by
  rcases s.2 with h | ⟨h1, h2⟩
  · exact ⟨h _, .inl h⟩
  · have ne : a ≠ p := fun e => h1 (e ▸ hp)
    refine ⟨b.l ne s.1, .inr ⟨h1, ?_⟩⟩
    cases q : H a with
    | none => exact absurd q h2
    | some o => rw [b _ _ ne q]; exact fun z => nomatch z
theorem Sc.more {K : PySem.W.Frag} {S S' : List Addr} {a : Addr} {xs : List V} {H : Hp} (s : Sc K S a xs H) (hS : ∀ q ∈ S', q ∈ S ∨ H q = none) : Sc K S' a xs H :=
  ⟨s.1, s.2.imp id fun ⟨h1, h2⟩ => ⟨fun z => (hS a z).elim h1 h2, h2⟩⟩
theorem src_some {H : Hp} {p : Addr} (a : Src H p) : H p ≠ none := by
  obtain ⟨x, y, z, h⟩ := a
  rw [h]
  exact fun z => nomatch z
theorem Src.stay {H H' : Hp} {p q : Addr} (s : Src H p) (b : But q H H') (h : p ≠ q) : Src H' p := by
  obtain ⟨x, y, z, e⟩ := s
  exact ⟨x, y, z, b _ _ h e⟩
end L3
/-! Delannoy numbers, in plain Lean. -/
namespace Del
def D : Nat → Nat → Nat
  | 0, _ => 1
  | _ + 1, 0 => 1
  | d + 1, r + 1 => D d (r + 1) + D (d + 1) r + D d r
theorem D_0 (d : Nat) : D d 0 = 1 := by cases d <;> simp [D]
theorem D_z (r : Nat) : D 0 r = 1 := by simp [D]
theorem D_s (d r : Nat) : D (d + 1) (r + 1) = D d (r + 1) + D (d + 1) r + D d r := by rw [D]
def ch : Nat → Nat → Nat
  | _, 0 => 1
  | 0, _ + 1 => 0
  | n + 1, k + 1 => ch n k + ch n (k + 1)
theorem ch_0 (n : Nat) : ch n 0 = 1 := by cases n <;> simp [ch]
theorem ch_z (k : Nat) : ch 0 (k + 1) = 0 := by simp [ch]
theorem ch_s (n k : Nat) : ch (n + 1) (k + 1) = ch n k + ch n (k + 1) := by rw [ch]
theorem ch_big : ∀ {n k : Nat}, n < k → ch n k = 0
  | 0, k + 1, _ => ch_z k
  | n + 1, k + 1, h => by rw [ch_s, ch_big (by omega : n < k), ch_big (by omega : n < k + 1)]
theorem ch_mul : ∀ (n k : Nat), ch n (k + 1) * (k + 1) = ch n k * (n - k)
  | 0, k => by rw [ch_z]; simp
  | n + 1, 0 => by
    have h := ch_mul n 0
    rw [ch_0] at h
    rw [ch_s, ch_0, ch_0]
    simp at h ⊢
    omega
  | n + 1, k + 1 => by
    have h1 := ch_mul n k
    have h2 := ch_mul n (k + 1)
    by_cases hk : k < n
    · rw [ch_s n (k + 1), ch_s n k]
      have e1 : n + 1 - (k + 1) = n - k := by omega
      have e2 : n - k = (n - (k + 1)) + 1 := by omega
      rw [e1]
      have l : (ch n (k + 1) + ch n (k + 1 + 1)) * (k + 1 + 1) = ch n (k + 1) * (k + 1) + ch n (k + 1) + ch n (k + 1 + 1) * (k + 1 + 1) := by
        rw [Nat.add_mul, Nat.mul_succ (ch n (k + 1))]
      rw [l, h1, h2, Nat.add_mul]
      have m : ch n (k + 1) * (n - k) = ch n (k + 1) * (n - (k + 1)) + ch n (k + 1) := by rw [e2, Nat.mul_succ] <;> omega
      rw [m]
      omega
    · rw [ch_big (by omega : n + 1 < k + 1 + 1)]
      have e1 : n + 1 - (k + 1) = 0 := by omega
      rw [e1]
      simp
/-- the sum of f 0 .. f (n - 1) -/
def sm (f : Nat → Nat) : Nat → Nat
  | 0 => 0
  | n + 1 => sm f n + f n
theorem sm_add (f g : Nat → Nat) : ∀ n, sm (fun s => f s + g s) n = sm f n + sm g n
  | 0 => rfl
  | n + 1 => by show sm (fun s => f s + g s) n + (f n + g n) = sm f n + f n + (sm g n + g n); rw [sm_add f g n]; omega
theorem sm_congr {f g : Nat → Nat} : ∀ {n}, (∀ s, s < n → f s = g s) → sm f n = sm g n
  | 0, _ => rfl
  | n + 1, h => by show sm f n + f n = sm g n + g n; rw [sm_congr fun s hs => h s (by omega), h n (by omega)]
theorem sm_shift (f : Nat → Nat) : ∀ n, sm f (n + 1) = f 0 + sm (fun s => f (s + 1)) n
  | 0 => by show 0 + f 0 = f 0 + 0; omega
  | n + 1 => by
    have h := sm_shift f n
    show sm f (n + 1) + f (n + 1) = f 0 + (sm (fun s => f (s + 1)) n + f (n + 1))
    rw [h]; omega
theorem sm_zero {f : Nat → Nat} {n : Nat} : ∀ {m}, n ≤ m → (∀ s, n ≤ s → f s = 0) → sm f m = sm f n
  | 0, h, _ => by have : n = 0 := by omega
                  subst this; rfl
  | m + 1, h, z => by
    by_cases e : n = m + 1
    · rw [e]
    · show sm f m + f m = sm f n
      rw [sm_zero (by omega) z, z m (by omega)]; rfl
def tm (d r s : Nat) : Nat := ch d s * ch r s * 2 ^ s
theorem tm_big {d r s : Nat} (h : d < s ∨ r < s) : tm d r s = 0 := by
  unfold tm
  rcases h with h | h
  · rw [ch_big h]; simp
  · rw [ch_big h]; simp
theorem S_rec (d r n : Nat) (h : d < n) : sm (tm (d + 1) (r + 1)) (n + 1) = sm (tm d (r + 1)) (n + 1) + sm (tm (d + 1) r) (n + 1) + sm (tm d r) (n + 1) := by
  have e0 : ∀ a b, sm (tm a b) (n + 1) = 1 + sm (fun s => tm a b (s + 1)) n := fun a b => by
    rw [sm_shift]
    unfold tm
    rw [ch_0, ch_0]
  rw [e0, e0, e0, e0]
  have key : ∀ s, tm (d + 1) (r + 1) (s + 1) + tm d r (s + 1) + tm d r (s + 1) = tm d (r + 1) (s + 1) + tm (d + 1) r (s + 1) + tm d r (s + 1) + (tm d r s + tm d r s) := fun s => by
    unfold tm
    rw [ch_s d s, ch_s r s, Nat.pow_succ]
    generalize ch d s = a
    generalize ch d (s + 1) = b
    generalize ch r s = x
    generalize ch r (s + 1) = y
    generalize 2 ^ s = p
    have e1 : (a + b) * (x + y) * (p * 2) = a * x * (p * 2) + a * y * (p * 2) + b * x * (p * 2) + b * y * (p * 2) := by
      simp only [Nat.add_mul, Nat.mul_add]; omega
    have e2 : b * (x + y) * (p * 2) = b * x * (p * 2) + b * y * (p * 2) := by simp only [Nat.add_mul, Nat.mul_add]
    have e3 : (a + b) * y * (p * 2) = a * y * (p * 2) + b * y * (p * 2) := by simp only [Nat.add_mul, Nat.mul_add]
    have e4 : a * x * (p * 2) = a * x * p + a * x * p := by rw [← Nat.mul_assoc]; omega
    rw [e1, e2, e3, e4]
    omega
  have sums := sm_congr (n := n) fun s _ => key s
  simp only [sm_add] at sums
  have sh := sm_shift (tm d r) n
  have e1 : tm d r 0 = 1 := by unfold tm; rw [ch_0, ch_0]
  have top : sm (tm d r) (n + 1) = sm (tm d r) n := by show sm (tm d r) n + tm d r n = _; rw [tm_big (.inl h)]; rfl
  have e2 : sm (fun s => tm d r s) n = sm (tm d r) n := rfl
  rw [e1] at sh
  omega
theorem D_sum : ∀ (d r n : Nat), d ≤ n → D d r = sm (tm d r) (n + 1)
  | 0, r, n, _ => by
    rw [D_z, sm_zero (n := 1) (by omega) fun s hs => tm_big (.inl (by omega))]
    show 1 = 0 + tm 0 r 0
    unfold tm; rw [ch_0, ch_0]
  | d + 1, 0, n, _ => by
    rw [D_0, sm_zero (n := 1) (by omega) fun s hs => tm_big (.inr (by omega))]
    show 1 = 0 + tm (d + 1) 0 0
    unfold tm; rw [ch_0, ch_0]
  | d + 1, r + 1, n, h => by
    rw [D_s, S_rec d r n (by omega), D_sum d (r + 1) n (by omega), D_sum (d + 1) r n h, D_sum d r n (by omega)]
/-- as the law reckons it: up to the lesser -/
theorem D_min (d r : Nat) : D d r = sm (tm d r) (min d r + 1) := by
  rw [D_sum d r d (Nat.le_refl _)]
  exact sm_zero (by omega) fun s hs => tm_big (by omega)
theorem tm_next (d r s : Nat) : tm d r s * 2 * (d - s) * (r - s) = tm d r (s + 1) * ((s + 1) * (s + 1)) := by
  have h1 := ch_mul d s
  have h2 := ch_mul r s
  unfold tm
  rw [Nat.pow_succ]
  have l : ch d s * ch r s * 2 ^ s * 2 * (d - s) * (r - s) = (ch d s * (d - s)) * (ch r s * (r - s)) * (2 ^ s * 2) := by
    simp only [Nat.mul_assoc, Nat.mul_comm, Nat.mul_left_comm]
  have m : ch d (s + 1) * ch r (s + 1) * (2 ^ s * 2) * ((s + 1) * (s + 1)) = (ch d (s + 1) * (s + 1)) * (ch r (s + 1) * (s + 1)) * (2 ^ s * 2) := by
    simp only [Nat.mul_assoc, Nat.mul_comm, Nat.mul_left_comm]
  rw [l, m, h1, h2]
theorem D_comm : ∀ (d r : Nat), D d r = D r d
  | 0, r => by rw [D_z, D_0]
  | d + 1, 0 => by rw [D_z, D_0]
  | d + 1, r + 1 => by rw [D_s, D_s, D_comm d (r + 1), D_comm (d + 1) r, D_comm d r]; omega
theorem D_pos : ∀ (d r : Nat), 1 ≤ D d r
  | 0, r => by rw [D_z]; omega
  | d + 1, 0 => by rw [D_0]; omega
  | d + 1, r + 1 => by rw [D_s]; have := D_pos d r; omega
theorem D_mono1 (d r : Nat) : D d r ≤ D d (r + 1) := by
  cases d with
  | zero => rw [D_z, D_z]; omega
  | succ d => rw [D_s]; omega
theorem D_lt1 (d r : Nat) (h : 1 ≤ d) : D d r + 2 ≤ D d (r + 1) := by
  cases d with
  | zero => omega
  | succ d =>
    rw [D_s]
    have h1 := D_pos d r
    have h2 := D_pos d (r + 1)
    omega
theorem D_mono (d : Nat) {r r' : Nat} (h : r ≤ r') : D d r ≤ D d r' := by
  obtain ⟨k, rfl⟩ : ∃ k, r' = r + k := ⟨r' - r, by omega⟩
  clear h
  induction k with
  | zero => exact Nat.le_refl _
  | succ k ih => exact Nat.le_trans ih (D_mono1 d (r + k))
theorem D_ge (d r : Nat) (h : 1 ≤ d) : 2 * r + 1 ≤ D d r := by
  induction r with
  | zero => exact D_pos d 0
  | succ r ih => have := D_lt1 d r h; omega
/-- r is the least with n at most D d r -/
def Least (n d r : Nat) : Prop := n ≤ D d r ∧ ∀ r', r' < r → D d r' < n
theorem Least.uniq {n d r r' : Nat} (a : Least n d r) (b : Least n d r') : r = r' := by
  rcases Nat.lt_trichotomy r r' with h | h | h
  · have := b.2 r h; have := a.1; omega
  · exact h
  · have := a.2 r' h; have := b.1; omega
theorem least_le {n d r : Nat} (hd : 1 ≤ d) (a : Least n d r) : r ≤ n := by
  refine Nat.le_of_not_lt fun h => ?_
  have h1 := a.2 (r - 1) (by omega)
  have h2 := D_ge d (r - 1) hd
  omega
end Del
set_option maxRecDepth 100000
set_option maxHeartbeats 0
namespace K25
open PySem PySem.Spec PyProof.Rows L2 L3
/-! ### where the defs stand -/
def top (i : Nat) : Stmt := PySem.Challenge.pw_toldoutside_k25_depths_loads_and_fewest.main.body.getD i (.Pass ⟨0, 0, 0, 0⟩)
abbrev s_bound : Stmt := top 20
abbrev s_next_row : Stmt := top 22
abbrev s_bound_small : Stmt := top 23
abbrev s_reach_of : Stmt := top 24
abbrev s_least_other : Stmt := top 25
abbrev s_least_changed : Stmt := top 26
abbrev s_least_read : Stmt := top 27
abbrev s_least_sizes : Stmt := top 29
abbrev s__law_source : Stmt := top 31
abbrev s__law_pick : Stmt := top 32
abbrev s__law_shuffled : Stmt := top 33
abbrev s__law_same : Stmt := top 34
abbrev s__law_fault : Stmt := top 35
abbrev s__law_reach : Stmt := top 36
abbrev s__law_f_asked : Stmt := top 37
abbrev s__law_f_least : Stmt := top 38
abbrev s__law_f_due : Stmt := top 39
abbrev s__law_f_number : Stmt := top 40
abbrev s__law_f_parts : Stmt := top 41
abbrev s__law_f_odd : Stmt := top 42
abbrev s_law : Stmt := top 43
abbrev i_TooMany : Stmt := inClass (top 2) 0
abbrev i_BadText : Stmt := inClass (top 3) 0
abbrev i_BadFormat : Stmt := inClass (top 4) 0
abbrev i_BadValue : Stmt := inClass (top 5) 0
abbrev i_BadShape : Stmt := inClass (top 6) 0
abbrev i_BadRow : Stmt := inClass (top 7) 0
abbrev i_BadSet : Stmt := inClass (top 8) 0
abbrev i_BadReader : Stmt := inClass (top 9) 0
abbrev i_BadLayout : Stmt := inClass (top 10) 0
abbrev i_BadCheck : Stmt := inClass (top 11) 0
abbrev i_BadCode : Stmt := inClass (top 12) 0
abbrev i_BadFeed : Stmt := inClass (top 13) 0
abbrev i_BadEdit : Stmt := inClass (top 14) 0
abbrev i_BadPatch : Stmt := inClass (top 15) 0
abbrev i_BadPaper : Stmt := inClass (top 16) 0
abbrev i_BadDeed : Stmt := inClass (top 17) 0
/-! ### what the head tells -/
def errs : List Str := (["TooMany", "BadText", "BadFormat", "BadValue", "BadShape", "BadRow", "BadSet", "BadReader", "BadLayout", "BadCheck", "BadCode", "BadFeed", "BadEdit", "BadPatch", "BadPaper", "BadDeed"] : List Str)
structure Txt (w : World) (K : PySem.W.Frag) (mg : Str → Option Value) : Prop where
  g_bound : mg "bound" = some (.ref (He.ga K "bound"))
  d_bound : ∃ fd, FunD K "bound" "bound" (defArgs s_bound) (defBody s_bound) (defScope s_bound) [] [] (He.ga K "bound") fd
  g_next_row : mg "next_row" = some (.ref (He.ga K "next_row"))
  d_next_row : ∃ fd, FunD K "next_row" "next_row" (defArgs s_next_row) (defBody s_next_row) (defScope s_next_row) [] [] (He.ga K "next_row") fd
  g_bound_small : mg "bound_small" = some (.ref (He.ga K "bound_small"))
  d_bound_small : ∃ fd, FunD K "bound_small" "bound_small" (defArgs s_bound_small) (defBody s_bound_small) (defScope s_bound_small) [] [] (He.ga K "bound_small") fd
  g_reach_of : mg "reach_of" = some (.ref (He.ga K "reach_of"))
  d_reach_of : ∃ fd, FunD K "reach_of" "reach_of" (defArgs s_reach_of) (defBody s_reach_of) (defScope s_reach_of) [] [] (He.ga K "reach_of") fd
  g_least_other : mg "least_other" = some (.ref (He.ga K "least_other"))
  d_least_other : ∃ fd, FunD K "least_other" "least_other" (defArgs s_least_other) (defBody s_least_other) (defScope s_least_other) [] [] (He.ga K "least_other") fd
  g_least_changed : mg "least_changed" = some (.ref (He.ga K "least_changed"))
  d_least_changed : ∃ fd, FunD K "least_changed" "least_changed" (defArgs s_least_changed) (defBody s_least_changed) (defScope s_least_changed) [] [] (He.ga K "least_changed") fd
  g_least_read : mg "least_read" = some (.ref (He.ga K "least_read"))
  d_least_read : ∃ fd, FunD K "least_read" "least_read" (defArgs s_least_read) (defBody s_least_read) (defScope s_least_read) [] [] (He.ga K "least_read") fd
  g_least_sizes : mg "least_sizes" = some (.ref (He.ga K "least_sizes"))
  d_least_sizes : ∃ fd, FunD K "least_sizes" "least_sizes" (defArgs s_least_sizes) (defBody s_least_sizes) (defScope s_least_sizes) [] [] (He.ga K "least_sizes") fd
  g__law_source : mg "_law_source" = some (.ref (He.ga K "_law_source"))
  d__law_source : ∃ fd, FunD K "_law_source" "_law_source" (defArgs s__law_source) (defBody s__law_source) (defScope s__law_source) [] [] (He.ga K "_law_source") fd
  g__law_pick : mg "_law_pick" = some (.ref (He.ga K "_law_pick"))
  d__law_pick : ∃ fd, FunD K "_law_pick" "_law_pick" (defArgs s__law_pick) (defBody s__law_pick) (defScope s__law_pick) [] [] (He.ga K "_law_pick") fd
  g__law_shuffled : mg "_law_shuffled" = some (.ref (He.ga K "_law_shuffled"))
  d__law_shuffled : ∃ fd, FunD K "_law_shuffled" "_law_shuffled" (defArgs s__law_shuffled) (defBody s__law_shuffled) (defScope s__law_shuffled) [] [] (He.ga K "_law_shuffled") fd
  g__law_same : mg "_law_same" = some (.ref (He.ga K "_law_same"))
  d__law_same : ∃ fd, FunD K "_law_same" "_law_same" (defArgs s__law_same) (defBody s__law_same) (defScope s__law_same) [] [] (He.ga K "_law_same") fd
  g__law_fault : mg "_law_fault" = some (.ref (He.ga K "_law_fault"))
  d__law_fault : ∃ fd, FunD K "_law_fault" "_law_fault" (defArgs s__law_fault) (defBody s__law_fault) (defScope s__law_fault) [] [] (He.ga K "_law_fault") fd
  g__law_reach : mg "_law_reach" = some (.ref (He.ga K "_law_reach"))
  d__law_reach : ∃ fd, FunD K "_law_reach" "_law_reach" (defArgs s__law_reach) (defBody s__law_reach) (defScope s__law_reach) [] [] (He.ga K "_law_reach") fd
  g__law_f_asked : mg "_law_f_asked" = some (.ref (He.ga K "_law_f_asked"))
  d__law_f_asked : ∃ fd, FunD K "_law_f_asked" "_law_f_asked" (defArgs s__law_f_asked) (defBody s__law_f_asked) (defScope s__law_f_asked) [] [] (He.ga K "_law_f_asked") fd
  g__law_f_least : mg "_law_f_least" = some (.ref (He.ga K "_law_f_least"))
  d__law_f_least : ∃ fd, FunD K "_law_f_least" "_law_f_least" (defArgs s__law_f_least) (defBody s__law_f_least) (defScope s__law_f_least) [] [] (He.ga K "_law_f_least") fd
  g__law_f_due : mg "_law_f_due" = some (.ref (He.ga K "_law_f_due"))
  d__law_f_due : ∃ fd, FunD K "_law_f_due" "_law_f_due" (defArgs s__law_f_due) (defBody s__law_f_due) (defScope s__law_f_due) [] [] (He.ga K "_law_f_due") fd
  g__law_f_number : mg "_law_f_number" = some (.ref (He.ga K "_law_f_number"))
  d__law_f_number : ∃ fd, FunD K "_law_f_number" "_law_f_number" (defArgs s__law_f_number) (defBody s__law_f_number) (defScope s__law_f_number) [] [] (He.ga K "_law_f_number") fd
  g__law_f_parts : mg "_law_f_parts" = some (.ref (He.ga K "_law_f_parts"))
  d__law_f_parts : ∃ fd, FunD K "_law_f_parts" "_law_f_parts" (defArgs s__law_f_parts) (defBody s__law_f_parts) (defScope s__law_f_parts) [] [] (He.ga K "_law_f_parts") fd
  g__law_f_odd : mg "_law_f_odd" = some (.ref (He.ga K "_law_f_odd"))
  d__law_f_odd : ∃ fd, FunD K "_law_f_odd" "_law_f_odd" (defArgs s__law_f_odd) (defBody s__law_f_odd) (defScope s__law_f_odd) [] [] (He.ga K "_law_f_odd") fd
  g_law : mg "law" = some (.ref (He.ga K "law"))
  d_law : ∃ fd, FunD K "law" "law" (defArgs s_law) (defBody s_law) (defScope s_law) [] [] (He.ga K "law") fd
  g_TooMany : mg "TooMany" = some (.ref (He.ga K "TooMany"))
  e_TooMany : ErrC K "TooMany" (["what"] : List Str)
  d_TooMany : ∃ fd, FunD K "__init__" "TooMany.__init__" (defArgs i_TooMany) (defBody i_TooMany) (defScope i_TooMany) [] [] (He.ma K (He.ga K "TooMany") "__init__") fd
  g_BadText : mg "BadText" = some (.ref (He.ga K "BadText"))
  e_BadText : ErrC K "BadText" (["line"] : List Str)
  d_BadText : ∃ fd, FunD K "__init__" "BadText.__init__" (defArgs i_BadText) (defBody i_BadText) (defScope i_BadText) [] [] (He.ma K (He.ga K "BadText") "__init__") fd
  g_BadFormat : mg "BadFormat" = some (.ref (He.ga K "BadFormat"))
  e_BadFormat : ErrC K "BadFormat" (["line", "what"] : List Str)
  d_BadFormat : ∃ fd, FunD K "__init__" "BadFormat.__init__" (defArgs i_BadFormat) (defBody i_BadFormat) (defScope i_BadFormat) [] [] (He.ma K (He.ga K "BadFormat") "__init__") fd
  g_BadValue : mg "BadValue" = some (.ref (He.ga K "BadValue"))
  e_BadValue : ErrC K "BadValue" (["path", "what"] : List Str)
  d_BadValue : ∃ fd, FunD K "__init__" "BadValue.__init__" (defArgs i_BadValue) (defBody i_BadValue) (defScope i_BadValue) [] [] (He.ma K (He.ga K "BadValue") "__init__") fd
  g_BadShape : mg "BadShape" = some (.ref (He.ga K "BadShape"))
  e_BadShape : ErrC K "BadShape" (["place"] : List Str)
  d_BadShape : ∃ fd, FunD K "__init__" "BadShape.__init__" (defArgs i_BadShape) (defBody i_BadShape) (defScope i_BadShape) [] [] (He.ma K (He.ga K "BadShape") "__init__") fd
  g_BadRow : mg "BadRow" = some (.ref (He.ga K "BadRow"))
  e_BadRow : ErrC K "BadRow" (["what", "place"] : List Str)
  d_BadRow : ∃ fd, FunD K "__init__" "BadRow.__init__" (defArgs i_BadRow) (defBody i_BadRow) (defScope i_BadRow) [] [] (He.ma K (He.ga K "BadRow") "__init__") fd
  g_BadSet : mg "BadSet" = some (.ref (He.ga K "BadSet"))
  e_BadSet : ErrC K "BadSet" (["place", "joint"] : List Str)
  d_BadSet : ∃ fd, FunD K "__init__" "BadSet.__init__" (defArgs i_BadSet) (defBody i_BadSet) (defScope i_BadSet) [] [] (He.ma K (He.ga K "BadSet") "__init__") fd
  g_BadReader : mg "BadReader" = some (.ref (He.ga K "BadReader"))
  e_BadReader : ErrC K "BadReader" (["step", "what"] : List Str)
  d_BadReader : ∃ fd, FunD K "__init__" "BadReader.__init__" (defArgs i_BadReader) (defBody i_BadReader) (defScope i_BadReader) [] [] (He.ma K (He.ga K "BadReader") "__init__") fd
  g_BadLayout : mg "BadLayout" = some (.ref (He.ga K "BadLayout"))
  e_BadLayout : ErrC K "BadLayout" (["what"] : List Str)
  d_BadLayout : ∃ fd, FunD K "__init__" "BadLayout.__init__" (defArgs i_BadLayout) (defBody i_BadLayout) (defScope i_BadLayout) [] [] (He.ma K (He.ga K "BadLayout") "__init__") fd
  g_BadCheck : mg "BadCheck" = some (.ref (He.ga K "BadCheck"))
  e_BadCheck : ErrC K "BadCheck" (["what"] : List Str)
  d_BadCheck : ∃ fd, FunD K "__init__" "BadCheck.__init__" (defArgs i_BadCheck) (defBody i_BadCheck) (defScope i_BadCheck) [] [] (He.ma K (He.ga K "BadCheck") "__init__") fd
  g_BadCode : mg "BadCode" = some (.ref (He.ga K "BadCode"))
  e_BadCode : ErrC K "BadCode" (["row", "what"] : List Str)
  d_BadCode : ∃ fd, FunD K "__init__" "BadCode.__init__" (defArgs i_BadCode) (defBody i_BadCode) (defScope i_BadCode) [] [] (He.ma K (He.ga K "BadCode") "__init__") fd
  g_BadFeed : mg "BadFeed" = some (.ref (He.ga K "BadFeed"))
  e_BadFeed : ErrC K "BadFeed" (["what"] : List Str)
  d_BadFeed : ∃ fd, FunD K "__init__" "BadFeed.__init__" (defArgs i_BadFeed) (defBody i_BadFeed) (defScope i_BadFeed) [] [] (He.ma K (He.ga K "BadFeed") "__init__") fd
  g_BadEdit : mg "BadEdit" = some (.ref (He.ga K "BadEdit"))
  e_BadEdit : ErrC K "BadEdit" (["what"] : List Str)
  d_BadEdit : ∃ fd, FunD K "__init__" "BadEdit.__init__" (defArgs i_BadEdit) (defBody i_BadEdit) (defScope i_BadEdit) [] [] (He.ma K (He.ga K "BadEdit") "__init__") fd
  g_BadPatch : mg "BadPatch" = some (.ref (He.ga K "BadPatch"))
  e_BadPatch : ErrC K "BadPatch" (["row", "what"] : List Str)
  d_BadPatch : ∃ fd, FunD K "__init__" "BadPatch.__init__" (defArgs i_BadPatch) (defBody i_BadPatch) (defScope i_BadPatch) [] [] (He.ma K (He.ga K "BadPatch") "__init__") fd
  g_BadPaper : mg "BadPaper" = some (.ref (He.ga K "BadPaper"))
  e_BadPaper : ErrC K "BadPaper" (["line"] : List Str)
  d_BadPaper : ∃ fd, FunD K "__init__" "BadPaper.__init__" (defArgs i_BadPaper) (defBody i_BadPaper) (defScope i_BadPaper) [] [] (He.ma K (He.ga K "BadPaper") "__init__") fd
  g_BadDeed : mg "BadDeed" = some (.ref (He.ga K "BadDeed"))
  e_BadDeed : ErrC K "BadDeed" (["what"] : List Str)
  d_BadDeed : ∃ fd, FunD K "__init__" "BadDeed.__init__" (defArgs i_BadDeed) (defBody i_BadDeed) (defScope i_BadDeed) [] [] (He.ma K (He.ga K "BadDeed") "__init__") fd
  g_OutsideError : mg "OutsideError" = some (.ref (He.ga K "OutsideError"))
  kits : Kits K "OutsideError" errs
  g_LIMITS : mg "LIMITS" = some (.ref (He.ga K "LIMITS"))
  t_LIMITS : ∀ k i, (k, i) ∈ ([("lines", 300), ("words", 40), ("bears", 3), ("checks", 6), ("letters", 8), ("states", 12), ("forms", 12), ("parts", 8), ("told", 24), ("pick", 6), ("width", 30), ("copies", 7), ("depth", 6), ("versions", 9), ("promises", 20), ("edits", 100), ("number", 1000000000000000000000000000000), ("nested", 60), ("shape", 400), ("elements", 400), ("signs", 4000), ("sets", 64), ("ways", 7), ("asks", 300), ("layout", 400), ("reach", 10000), ("deeds", 200), ("paper", 4000)] : List (Str × Int)) → KDct K w (He.ga K "LIMITS") k (.int i)
  f_ValueError : mg "ValueError" = none
  f_range : mg "range" = none
  f_list : mg "list" = none
  f_isinstance : mg "isinstance" = none
  f_dict : mg "dict" = none
  f_max : mg "max" = none
  f_len : mg "len" = none
  f_int : mg "int" = none
  f_abs : mg "abs" = none
  f_tuple : mg "tuple" = none
  f_all : mg "all" = none
  f_min : mg "min" = none
  f_bool : mg "bool" = none
  f_str : mg "str" = none
  f_sum : mg "sum" = none
  f_sorted : mg "sorted" = none
def fa : List He.Fa := [.glo "bound", .glo "next_row", .glo "bound_small", .glo "reach_of", .glo "least_other", .glo "least_changed", .glo "least_read", .glo "least_sizes", .glo "_law_source", .glo "_law_pick", .glo "_law_shuffled", .glo "_law_same", .glo "_law_fault", .glo "_law_reach", .glo "_law_f_asked", .glo "_law_f_least", .glo "_law_f_due", .glo "_law_f_number", .glo "_law_f_parts", .glo "_law_f_odd", .glo "law", .glo "TooMany", .glo "BadText", .glo "BadFormat", .glo "BadValue", .glo "BadShape", .glo "BadRow", .glo "BadSet", .glo "BadReader", .glo "BadLayout", .glo "BadCheck", .glo "BadCode", .glo "BadFeed", .glo "BadEdit", .glo "BadPatch", .glo "BadPaper", .glo "BadDeed", .glo "OutsideError", .glo "LIMITS", .free "ValueError", .free "range", .free "list", .free "isinstance", .free "dict", .free "max", .free "len", .free "int", .free "abs", .free "tuple", .free "all", .free "min", .free "bool", .free "str", .free "sum", .free "sorted"]
def fn : List He.DefD := [
  ⟨("bound", none), "bound", "bound", defArgs s_bound, defBody s_bound, defScope s_bound, [], []⟩,
  ⟨("next_row", none), "next_row", "next_row", defArgs s_next_row, defBody s_next_row, defScope s_next_row, [], []⟩,
  ⟨("bound_small", none), "bound_small", "bound_small", defArgs s_bound_small, defBody s_bound_small, defScope s_bound_small, [], []⟩,
  ⟨("reach_of", none), "reach_of", "reach_of", defArgs s_reach_of, defBody s_reach_of, defScope s_reach_of, [], []⟩,
  ⟨("least_other", none), "least_other", "least_other", defArgs s_least_other, defBody s_least_other, defScope s_least_other, [], []⟩,
  ⟨("least_changed", none), "least_changed", "least_changed", defArgs s_least_changed, defBody s_least_changed, defScope s_least_changed, [], []⟩,
  ⟨("least_read", none), "least_read", "least_read", defArgs s_least_read, defBody s_least_read, defScope s_least_read, [], []⟩,
  ⟨("least_sizes", none), "least_sizes", "least_sizes", defArgs s_least_sizes, defBody s_least_sizes, defScope s_least_sizes, [], []⟩,
  ⟨("_law_source", none), "_law_source", "_law_source", defArgs s__law_source, defBody s__law_source, defScope s__law_source, [], []⟩,
  ⟨("_law_pick", none), "_law_pick", "_law_pick", defArgs s__law_pick, defBody s__law_pick, defScope s__law_pick, [], []⟩,
  ⟨("_law_shuffled", none), "_law_shuffled", "_law_shuffled", defArgs s__law_shuffled, defBody s__law_shuffled, defScope s__law_shuffled, [], []⟩,
  ⟨("_law_same", none), "_law_same", "_law_same", defArgs s__law_same, defBody s__law_same, defScope s__law_same, [], []⟩,
  ⟨("_law_fault", none), "_law_fault", "_law_fault", defArgs s__law_fault, defBody s__law_fault, defScope s__law_fault, [], []⟩,
  ⟨("_law_reach", none), "_law_reach", "_law_reach", defArgs s__law_reach, defBody s__law_reach, defScope s__law_reach, [], []⟩,
  ⟨("_law_f_asked", none), "_law_f_asked", "_law_f_asked", defArgs s__law_f_asked, defBody s__law_f_asked, defScope s__law_f_asked, [], []⟩,
  ⟨("_law_f_least", none), "_law_f_least", "_law_f_least", defArgs s__law_f_least, defBody s__law_f_least, defScope s__law_f_least, [], []⟩,
  ⟨("_law_f_due", none), "_law_f_due", "_law_f_due", defArgs s__law_f_due, defBody s__law_f_due, defScope s__law_f_due, [], []⟩,
  ⟨("_law_f_number", none), "_law_f_number", "_law_f_number", defArgs s__law_f_number, defBody s__law_f_number, defScope s__law_f_number, [], []⟩,
  ⟨("_law_f_parts", none), "_law_f_parts", "_law_f_parts", defArgs s__law_f_parts, defBody s__law_f_parts, defScope s__law_f_parts, [], []⟩,
  ⟨("_law_f_odd", none), "_law_f_odd", "_law_f_odd", defArgs s__law_f_odd, defBody s__law_f_odd, defScope s__law_f_odd, [], []⟩,
  ⟨("law", none), "law", "law", defArgs s_law, defBody s_law, defScope s_law, [], []⟩,
  ⟨("TooMany", some "__init__"), "__init__", "TooMany.__init__", defArgs i_TooMany, defBody i_TooMany, defScope i_TooMany, [], []⟩,
  ⟨("BadText", some "__init__"), "__init__", "BadText.__init__", defArgs i_BadText, defBody i_BadText, defScope i_BadText, [], []⟩,
  ⟨("BadFormat", some "__init__"), "__init__", "BadFormat.__init__", defArgs i_BadFormat, defBody i_BadFormat, defScope i_BadFormat, [], []⟩,
  ⟨("BadValue", some "__init__"), "__init__", "BadValue.__init__", defArgs i_BadValue, defBody i_BadValue, defScope i_BadValue, [], []⟩,
  ⟨("BadShape", some "__init__"), "__init__", "BadShape.__init__", defArgs i_BadShape, defBody i_BadShape, defScope i_BadShape, [], []⟩,
  ⟨("BadRow", some "__init__"), "__init__", "BadRow.__init__", defArgs i_BadRow, defBody i_BadRow, defScope i_BadRow, [], []⟩,
  ⟨("BadSet", some "__init__"), "__init__", "BadSet.__init__", defArgs i_BadSet, defBody i_BadSet, defScope i_BadSet, [], []⟩,
  ⟨("BadReader", some "__init__"), "__init__", "BadReader.__init__", defArgs i_BadReader, defBody i_BadReader, defScope i_BadReader, [], []⟩,
  ⟨("BadLayout", some "__init__"), "__init__", "BadLayout.__init__", defArgs i_BadLayout, defBody i_BadLayout, defScope i_BadLayout, [], []⟩,
  ⟨("BadCheck", some "__init__"), "__init__", "BadCheck.__init__", defArgs i_BadCheck, defBody i_BadCheck, defScope i_BadCheck, [], []⟩,
  ⟨("BadCode", some "__init__"), "__init__", "BadCode.__init__", defArgs i_BadCode, defBody i_BadCode, defScope i_BadCode, [], []⟩,
  ⟨("BadFeed", some "__init__"), "__init__", "BadFeed.__init__", defArgs i_BadFeed, defBody i_BadFeed, defScope i_BadFeed, [], []⟩,
  ⟨("BadEdit", some "__init__"), "__init__", "BadEdit.__init__", defArgs i_BadEdit, defBody i_BadEdit, defScope i_BadEdit, [], []⟩,
  ⟨("BadPatch", some "__init__"), "__init__", "BadPatch.__init__", defArgs i_BadPatch, defBody i_BadPatch, defScope i_BadPatch, [], []⟩,
  ⟨("BadPaper", some "__init__"), "__init__", "BadPaper.__init__", defArgs i_BadPaper, defBody i_BadPaper, defScope i_BadPaper, [], []⟩,
  ⟨("BadDeed", some "__init__"), "__init__", "BadDeed.__init__", defArgs i_BadDeed, defBody i_BadDeed, defScope i_BadDeed, [], []⟩]
def ts : List He.Tab := [(fun K => He.ga K "LIMITS", (["lines", "words", "bears", "checks", "letters", "states", "forms", "parts", "told", "pick", "width", "copies", "depth", "versions", "promises", "edits", "number", "nested", "shape", "elements", "signs", "sets", "ways", "asks", "layout", "reach", "deeds", "paper"] : List Str))]
def kv_LIMITS : List (Str × Int) := [("lines", 300), ("words", 40), ("bears", 3), ("checks", 6), ("letters", 8), ("states", 12), ("forms", 12), ("parts", 8), ("told", 24), ("pick", 6), ("width", 30), ("copies", 7), ("depth", 6), ("versions", 9), ("promises", 20), ("edits", 100), ("number", 1000000000000000000000000000000), ("nested", 60), ("shape", 400), ("elements", 400), ("signs", 4000), ("sets", 64), ("ways", 7), ("asks", 300), ("layout", 400), ("reach", 10000), ("deeds", 200), ("paper", 4000)]
def exs : List (PySem.W.Frag → Bool) := [fun K => kitsB K "OutsideError" errs, fun K => errB K "TooMany" (["what"] : List Str), fun K => errB K "BadText" (["line"] : List Str), fun K => errB K "BadFormat" (["line", "what"] : List Str), fun K => errB K "BadValue" (["path", "what"] : List Str), fun K => errB K "BadShape" (["place"] : List Str), fun K => errB K "BadRow" (["what", "place"] : List Str), fun K => errB K "BadSet" (["place", "joint"] : List Str), fun K => errB K "BadReader" (["step", "what"] : List Str), fun K => errB K "BadLayout" (["what"] : List Str), fun K => errB K "BadCheck" (["what"] : List Str), fun K => errB K "BadCode" (["row", "what"] : List Str), fun K => errB K "BadFeed" (["what"] : List Str), fun K => errB K "BadEdit" (["what"] : List Str), fun K => errB K "BadPatch" (["row", "what"] : List Str), fun K => errB K "BadPaper" (["line"] : List Str), fun K => errB K "BadDeed" (["what"] : List Str), fun K => tabB K "LIMITS" kv_LIMITS]
def ex (K : PySem.W.Frag) : Bool := exs.all fun f => f K
abbrev R : PySem.W.OpenRow := PySem.W.OpenLaw.row PySem.Challenge.rw_toldoutside_k25_depths_loads_and_fewest
abbrev hk : PySem.W.Hook := He.hookX 6 fa fn ts [] ex
def ob (s : PySem.W.SharedT) : He.AlX := He.obsX 6 fa fn ts [] ex (HandSHeadRun.getT s)
theorem ob_eq (s : PySem.W.SharedT) : ob s = hk.obs s.abs := He.obsX_eq (HandSHeadRun.getT_eq s)
def nm0 : List Str := (["OutsideError", "TooMany", "BadText", "BadFormat", "BadValue", "BadShape", "BadRow", "BadSet", "BadReader", "BadLayout", "BadCheck", "BadCode"] : List Str)
def nm1 : List Str := (["BadFeed", "BadEdit", "BadPatch", "BadPaper", "BadDeed", "LIMITS", "bound", "next_row", "bound_small", "reach_of", "least_other", "least_changed"] : List Str)
def nm2 : List Str := (["least_read", "least_sizes", "_law_source", "_law_pick", "_law_shuffled", "_law_same", "_law_fault", "_law_reach", "_law_f_asked", "_law_f_least", "_law_f_due", "_law_f_number"] : List Str)
def nm3 : List Str := (["_law_f_parts", "_law_f_odd"] : List Str)
def nms : List Str := nm0 ++ nm1 ++ nm2 ++ nm3
theorem run_false (w : World) : HandSHeadRun.RunEq R (PySem.W.view R.prog [43]) hk ob 6000 nms (w.withFollow "special-get-raises" false) := by
  intro os
  kernel_rfl
theorem run_true (w : World) : HandSHeadRun.RunEq R (PySem.W.view R.prog [43]) hk ob 6000 nms (w.withFollow "special-get-raises" true) := by
  intro os
  kernel_rfl
theorem run (w : World) : HandSHeadRun.RunEq R (PySem.W.view R.prog [43]) hk ob 6000 nms w := by
  have h : ∀ b : Bool, HandSHeadRun.RunEq R (PySem.W.view R.prog [43]) hk ob 6000 nms (w.withFollow "special-get-raises" b) := fun b => by
    cases b
    · exact run_false w
    · exact run_true w
  have z := h (w.params.followText "special-get-raises")
  rwa [World.withFollow_self] at z
theorem txt {w : World} {h : Heap} {K : PySem.W.Frag} {mg : Str → Option Value} (X : K.In h) (G : h.Ns mainGlobals mg) (c : He.SaysX fa fn ts [] ex w h K) : Txt w K mg := by
  have D := c.t.d
  have E : ∀ i (f : PySem.W.Frag → Bool), exs[i]? = some f → f K = true := fun i (f : PySem.W.Frag → Bool) e => List.all_eq_true.mp c.more f (List.mem_of_getElem? e)
  refine {
    g_bound := He.glo_ok X G (D.fact 0 (f := .glo "bound") rfl)
    g_next_row := He.glo_ok X G (D.fact 1 (f := .glo "next_row") rfl)
    g_bound_small := He.glo_ok X G (D.fact 2 (f := .glo "bound_small") rfl)
    g_reach_of := He.glo_ok X G (D.fact 3 (f := .glo "reach_of") rfl)
    g_least_other := He.glo_ok X G (D.fact 4 (f := .glo "least_other") rfl)
    g_least_changed := He.glo_ok X G (D.fact 5 (f := .glo "least_changed") rfl)
    g_least_read := He.glo_ok X G (D.fact 6 (f := .glo "least_read") rfl)
    g_least_sizes := He.glo_ok X G (D.fact 7 (f := .glo "least_sizes") rfl)
    g__law_source := He.glo_ok X G (D.fact 8 (f := .glo "_law_source") rfl)
    g__law_pick := He.glo_ok X G (D.fact 9 (f := .glo "_law_pick") rfl)
    g__law_shuffled := He.glo_ok X G (D.fact 10 (f := .glo "_law_shuffled") rfl)
    g__law_same := He.glo_ok X G (D.fact 11 (f := .glo "_law_same") rfl)
    g__law_fault := He.glo_ok X G (D.fact 12 (f := .glo "_law_fault") rfl)
    g__law_reach := He.glo_ok X G (D.fact 13 (f := .glo "_law_reach") rfl)
    g__law_f_asked := He.glo_ok X G (D.fact 14 (f := .glo "_law_f_asked") rfl)
    g__law_f_least := He.glo_ok X G (D.fact 15 (f := .glo "_law_f_least") rfl)
    g__law_f_due := He.glo_ok X G (D.fact 16 (f := .glo "_law_f_due") rfl)
    g__law_f_number := He.glo_ok X G (D.fact 17 (f := .glo "_law_f_number") rfl)
    g__law_f_parts := He.glo_ok X G (D.fact 18 (f := .glo "_law_f_parts") rfl)
    g__law_f_odd := He.glo_ok X G (D.fact 19 (f := .glo "_law_f_odd") rfl)
    g_law := He.glo_ok X G (D.fact 20 (f := .glo "law") rfl)
    g_TooMany := He.glo_ok X G (D.fact 21 (f := .glo "TooMany") rfl)
    g_BadText := He.glo_ok X G (D.fact 22 (f := .glo "BadText") rfl)
    g_BadFormat := He.glo_ok X G (D.fact 23 (f := .glo "BadFormat") rfl)
    g_BadValue := He.glo_ok X G (D.fact 24 (f := .glo "BadValue") rfl)
    g_BadShape := He.glo_ok X G (D.fact 25 (f := .glo "BadShape") rfl)
    g_BadRow := He.glo_ok X G (D.fact 26 (f := .glo "BadRow") rfl)
    g_BadSet := He.glo_ok X G (D.fact 27 (f := .glo "BadSet") rfl)
    g_BadReader := He.glo_ok X G (D.fact 28 (f := .glo "BadReader") rfl)
    g_BadLayout := He.glo_ok X G (D.fact 29 (f := .glo "BadLayout") rfl)
    g_BadCheck := He.glo_ok X G (D.fact 30 (f := .glo "BadCheck") rfl)
    g_BadCode := He.glo_ok X G (D.fact 31 (f := .glo "BadCode") rfl)
    g_BadFeed := He.glo_ok X G (D.fact 32 (f := .glo "BadFeed") rfl)
    g_BadEdit := He.glo_ok X G (D.fact 33 (f := .glo "BadEdit") rfl)
    g_BadPatch := He.glo_ok X G (D.fact 34 (f := .glo "BadPatch") rfl)
    g_BadPaper := He.glo_ok X G (D.fact 35 (f := .glo "BadPaper") rfl)
    g_BadDeed := He.glo_ok X G (D.fact 36 (f := .glo "BadDeed") rfl)
    g_OutsideError := He.glo_ok X G (D.fact 37 (f := .glo "OutsideError") rfl)
    g_LIMITS := He.glo_ok X G (D.fact 38 (f := .glo "LIMITS") rfl)
    f_ValueError := He.free_ok X G (D.fact 39 (f := .free "ValueError") rfl)
    f_range := He.free_ok X G (D.fact 40 (f := .free "range") rfl)
    f_list := He.free_ok X G (D.fact 41 (f := .free "list") rfl)
    f_isinstance := He.free_ok X G (D.fact 42 (f := .free "isinstance") rfl)
    f_dict := He.free_ok X G (D.fact 43 (f := .free "dict") rfl)
    f_max := He.free_ok X G (D.fact 44 (f := .free "max") rfl)
    f_len := He.free_ok X G (D.fact 45 (f := .free "len") rfl)
    f_int := He.free_ok X G (D.fact 46 (f := .free "int") rfl)
    f_abs := He.free_ok X G (D.fact 47 (f := .free "abs") rfl)
    f_tuple := He.free_ok X G (D.fact 48 (f := .free "tuple") rfl)
    f_all := He.free_ok X G (D.fact 49 (f := .free "all") rfl)
    f_min := He.free_ok X G (D.fact 50 (f := .free "min") rfl)
    f_bool := He.free_ok X G (D.fact 51 (f := .free "bool") rfl)
    f_str := He.free_ok X G (D.fact 52 (f := .free "str") rfl)
    f_sum := He.free_ok X G (D.fact 53 (f := .free "sum") rfl)
    f_sorted := He.free_ok X G (D.fact 54 (f := .free "sorted") rfl)
    d_bound := D.def_ 0 rfl
    d_next_row := D.def_ 1 rfl
    d_bound_small := D.def_ 2 rfl
    d_reach_of := D.def_ 3 rfl
    d_least_other := D.def_ 4 rfl
    d_least_changed := D.def_ 5 rfl
    d_least_read := D.def_ 6 rfl
    d_least_sizes := D.def_ 7 rfl
    d__law_source := D.def_ 8 rfl
    d__law_pick := D.def_ 9 rfl
    d__law_shuffled := D.def_ 10 rfl
    d__law_same := D.def_ 11 rfl
    d__law_fault := D.def_ 12 rfl
    d__law_reach := D.def_ 13 rfl
    d__law_f_asked := D.def_ 14 rfl
    d__law_f_least := D.def_ 15 rfl
    d__law_f_due := D.def_ 16 rfl
    d__law_f_number := D.def_ 17 rfl
    d__law_f_parts := D.def_ 18 rfl
    d__law_f_odd := D.def_ 19 rfl
    d_law := D.def_ 20 rfl
    d_TooMany := D.def_ 21 rfl
    d_BadText := D.def_ 22 rfl
    d_BadFormat := D.def_ 23 rfl
    d_BadValue := D.def_ 24 rfl
    d_BadShape := D.def_ 25 rfl
    d_BadRow := D.def_ 26 rfl
    d_BadSet := D.def_ 27 rfl
    d_BadReader := D.def_ 28 rfl
    d_BadLayout := D.def_ 29 rfl
    d_BadCheck := D.def_ 30 rfl
    d_BadCode := D.def_ 31 rfl
    d_BadFeed := D.def_ 32 rfl
    d_BadEdit := D.def_ 33 rfl
    d_BadPatch := D.def_ 34 rfl
    d_BadPaper := D.def_ 35 rfl
    d_BadDeed := D.def_ 36 rfl
    kits := kitsB_ok (E 0 _ rfl)
    e_TooMany := errB_ok (E 1 _ rfl)
    e_BadText := errB_ok (E 2 _ rfl)
    e_BadFormat := errB_ok (E 3 _ rfl)
    e_BadValue := errB_ok (E 4 _ rfl)
    e_BadShape := errB_ok (E 5 _ rfl)
    e_BadRow := errB_ok (E 6 _ rfl)
    e_BadSet := errB_ok (E 7 _ rfl)
    e_BadReader := errB_ok (E 8 _ rfl)
    e_BadLayout := errB_ok (E 9 _ rfl)
    e_BadCheck := errB_ok (E 10 _ rfl)
    e_BadCode := errB_ok (E 11 _ rfl)
    e_BadFeed := errB_ok (E 12 _ rfl)
    e_BadEdit := errB_ok (E 13 _ rfl)
    e_BadPatch := errB_ok (E 14 _ rfl)
    e_BadPaper := errB_ok (E 15 _ rfl)
    e_BadDeed := errB_ok (E 16 _ rfl)
    t_LIMITS := fun k i hq => by
      obtain ⟨es, n, KD⟩ := c.t.tab 0 rfl
      exact tabB_ok (E 17 _ rfl) KD hq }
end K25
open PySem PySem.W PySem.Calls PyProof.Rows in
theorem K25.law_of (k : Nat) (hk : L2.Room k callerA)
    (F : ∀ (w : World) (K : Frag) (mg : PySem.Str → Option Value) (base : Heap), K.In base → base.Ns mainGlobals mg → K25.Txt w K mg → ∀ fd, L2.FunD K "law" "law" (L2.defArgs K25.s_law) (L2.defBody K25.s_law) (L2.defScope K25.s_law) [] [] (He.ga K "law") fd →
      L2.FnOk (PySem.Challenge.rw_toldoutside_k25_depths_loads_and_fewest).prog w K mg base (L2N.CX (PySem.Challenge.rw_toldoutside_k25_depths_loads_and_fewest).prog w) k (He.ga K "law") fd ["script"] (L3.spLaw K)) : PySem.Challenge.rw_toldoutside_k25_depths_loads_and_fewest.Holds := by
  w_on; o_law
  refine HandSHeadRun.head_any (r := OpenLaw.row PySem.Challenge.rw_toldoutside_k25_depths_loads_and_fewest) (q := view (OpenLaw.row PySem.Challenge.rw_toldoutside_k25_depths_loads_and_fewest).prog [43]) (H := K25.hk) (ob := K25.ob) (M := 6000) (loose := K25.nms) (d := HandSHeadRun.topDef (OpenLaw.row PySem.Challenge.rw_toldoutside_k25_depths_loads_and_fewest).prog 43) (kwd := []) K25.ob_eq
    (by kernel_rfl) (fun s => by kernel_rfl) K25.run (by kernel_rfl) (by kernel_rfl) (by kernel_rfl) (by rfl) (by first | assumption | decide +kernel) (by decide +kernel) ⟨rfl, rfl, rfl, rfl, rfl, by decide +kernel⟩ ?hw ?hc
  case hw => w_witness2
  case hc =>
    refine L3.walk_law (l := PySem.Challenge.rw_toldoutside_k25_depths_loads_and_fewest) (k := k) rfl (by kernel_rfl) hk ?F
    intro w mg fa h Y G hmg0
    obtain ⟨K, KX, c⟩ := Y
    have hmg : mg ("law" : PySem.Str) = some (.ref fa) := by
      have e : (HandSHeadRun.topDef (OpenLaw.row PySem.Challenge.rw_toldoutside_k25_depths_loads_and_fewest).prog 43).name = ("law" : PySem.Str) := by kernel_rfl
      rw [← e]
      exact hmg0
    have T := K25.txt KX G c
    have e := hmg.symm.trans T.g_law
    cases e
    obtain ⟨fd, D⟩ := T.d_law
    have b := L2.FunD.bindsA (ps := ["script"]) D fun _ _ _ _ _ _ us hl => match us, hl with | [_], _ => rfl
    exact ⟨K, fd, KX, fun s v => b s [v] rfl, fun base XB GB => F w K mg base XB GB T fd D⟩
set_option maxRecDepth 100000
set_option maxHeartbeats 4000000
namespace K25
open PySem PySem.Spec PyProof.Rows L2 L3
local macro_rules | `(tactic| walk_at "s1") => `(tactic| first
  | with_reducible refine r_seq ?_
  | with_reducible refine r_asgN ?_
  | with_reducible refine r_ret ?_
  | with_reducible refine r_next ?_
  | ((with_reducible refine' r_var ?hv ?_); (case hv => exact rfl))
  | with_reducible refine r_c ?_
  | with_reducible refine r_op ?_
  | with_reducible refine r_cons ?_
  | with_reducible refine r_nil ?_
  | with_reducible refine r_plusI ?_
  | with_reducible refine r_I0 ?_
  | with_reducible refine r_test ?_
  | with_reducible refine r_bl ?_
  | with_reducible refine r_ifS ?_
  | with_reducible refine r_cb ?_
  | with_reducible refine r_callS ?_
  | with_reducible refine r_and ?_
  | with_reducible refine r_or ?_
  | with_reducible refine r_not ?_
  | with_reducible refine r_B ?_
  | ((with_reducible refine' r_aug ?hv ?_); (case hv => exact rfl))
  | with_reducible refine r_augS ?_
  | with_reducible refine r_ipI ?_
  | with_reducible refine r_asg ?_
  | with_reducible refine r_sub ?_
  | with_reducible refine r_brk ?_
  | with_reducible refine r_isN1 ?_
  | with_reducible refine r_notN1 ?_
  | with_reducible refine r_intI ?_
  | with_reducible refine r_abs ?_
  | with_reducible refine r_min ?_
  | with_reducible refine r_max ?_
  | ((with_reducible refine' r_mod ?hz ?_); (case hz => omega))
  | ((with_reducible refine' r_pow ?hz ?_); (case hz => exact ⟨by decide, by decide, by decide⟩))
  | ((with_reducible refine' r_rg1 ?hz ?_); (case hz => omega))
  | ((with_reducible refine' r_rg2 ?hz ?_); (case hz => omega))
  | ((with_reducible refine' r_newL ?hz ?_); (case hz => exact Nat.le_of_ble_eq_true rfl))
  | ((with_reducible refine' r_newT ?hz ?_); (case hz => exact Nat.le_of_ble_eq_true rfl))
  | with_reducible refine r_for ?_
  | with_reducible refine r_lc ?_
  | with_reducible refine r_iR1 ?_
  | with_reducible refine r_iR2 ?_
  | with_reducible refine r_iL ?_
  | with_reducible refine r_iT ?_
  | with_reducible refine r_gname ?_
  | with_reducible refine r_gcons ?_
  | with_reducible refine r_gnil ?_
  | with_reducible refine r_yes ?_
  | with_reducible refine r_mkO ?_
  | with_reducible refine r_cont ?_
  | with_reducible refine r_drop ?_
  | with_reducible refine r_retN ?_
  | with_reducible refine r_ifC ?_
  | with_reducible refine r_ifI ?_
  | with_reducible refine r_if ?_
  | with_reducible refine r_un ?_
  | with_reducible refine r_neg ?_
  | with_reducible refine r_andV ?_
  | with_reducible refine r_orV ?_
  | with_reducible refine r_notV ?_
  | with_reducible refine r_tup ?_
  | with_reducible refine r_lst ?_
  | with_reducible refine r_bm ?_
  | with_reducible refine r_bm0 ?_
  | with_reducible refine r_sl ?_
  | with_reducible refine r_chain ?_
  | with_reducible refine r_noPart ?_
  | with_reducible refine r_part ?_
  | with_reducible refine r_int ?_
  | ((with_reducible refine' r_sameS ?hs ?_); (case hs => exact rfl))
  | ((with_reducible refine' r_otherS ?hs ?_); (case hs => exact rfl))
  | with_reducible refine ite_t ?_
  | with_reducible refine ite_f ?_
  | with_reducible refine ite_nt ?_
  | with_reducible refine ite_nf ?_)
local macro_rules | `(tactic| walk_at "st") => `(tactic| repeat (walk_at "s1"))

section
variable {P : Program} {w : World} {K : PySem.W.Frag} {mg : Str → Option Value} {base : Heap}
theorem sci_TooMany : FnScope ["self", "what"] ["self", "what"] (defScope i_TooMany) := ⟨rfl, rfl, rfl, by decide +kernel, rfl, by decide +kernel, by decide +kernel⟩
theorem ci_TooMany (T : Txt w K mg) : ErrI P w K mg base "TooMany" ["self", "what"] (spI1 (He.ga K "TooMany") "what") := by
  refine errI_of T.d_TooMany sci_TooMany (fun _ _ _ _ _ _ _ us hl => match us, hl with | [_, _], _ => rfl) (fun vs H Q E h => by obtain ⟨a, v0, rfl, _⟩ := h; rfl) (fun cdv A outer s H vs Q E hr h => ?_)
  obtain ⟨a, v0, rfl, ha, k⟩ := h
  refine ⟨_, pss_one (ps_ost (pv 0) (pv 1)), ?_⟩
  exact r_ost1 T.e_TooMany.o (T.e_TooMany.no _ (by simp)) ha rfl rfl k
theorem sci_BadLayout : FnScope ["self", "what"] ["self", "what"] (defScope i_BadLayout) := ⟨rfl, rfl, rfl, by decide +kernel, rfl, by decide +kernel, by decide +kernel⟩
theorem ci_BadLayout (T : Txt w K mg) : ErrI P w K mg base "BadLayout" ["self", "what"] (spI1 (He.ga K "BadLayout") "what") := by
  refine errI_of T.d_BadLayout sci_BadLayout (fun _ _ _ _ _ _ _ us hl => match us, hl with | [_, _], _ => rfl) (fun vs H Q E h => by obtain ⟨a, v0, rfl, _⟩ := h; rfl) (fun cdv A outer s H vs Q E hr h => ?_)
  obtain ⟨a, v0, rfl, ha, k⟩ := h
  refine ⟨_, pss_one (ps_ost (pv 0) (pv 1)), ?_⟩
  exact r_ost1 T.e_BadLayout.o (T.e_BadLayout.no _ (by simp)) ha rfl rfl k
/-! ### the bounds -/
def spBound (K : PySem.W.Frag) : Sp := fun vs H Q E => ∃ (what : Str) (lim n : Int), vs = [.str what, .int n] ∧ (what, lim) ∈ kv_LIMITS ∧
  (lim < n → ∀ d H', H d = none → Ext H H' → H' d = some (.xd [("what", .str what)]) → E (.ref (He.ga K "TooMany")) (some d) H') ∧ (¬ lim < n → Q .non H)
theorem sc_bound : FnScope ["what", "number"] ["what", "number"] (defScope s_bound) := ⟨rfl, rfl, rfl, by decide +kernel, rfl, by decide +kernel, by decide +kernel⟩
theorem ok_bound (T : Txt w K mg) : CalG P w K mg base 4 "bound" ["what", "number"] (spBound K) := by
  have c_TooMany : ErrI P w K mg base "TooMany" ["self", "what"] _ := ci_TooMany T
  refine calG_of T.g_bound T.d_bound sc_bound (fun _ _ _ _ _ _ _ us hl => match us, hl with | [_, _], _ => rfl) (fun vs H Q E h => by obtain ⟨c, k, n, rfl, _⟩ := h; rfl) (fun cdv A outer s H vs Q E hr h => ?_)
  have nd := sc_bound.nd
  have hu := hu64 hr
  obtain ⟨what, lim, n, rfl, hm, hb, hg⟩ := h
  refine ⟨_, (pss_one (ps_if (pt_cmpR op_gt (pv 1) (pe_ix (kdictK (K := K)) (pe_gl T.g_LIMITS) (pv 0) (fun _ _ => rfl)) (nomark _)) (pss_one (L2N.ps_raise rfl (L2N.takes_of rfl rfl rfl rfl) (pmk_errI T.e_TooMany c_TooMany hr (by decide) T.g_TooMany (pa_cons (pv 0) pa_nil)))) pss_nil)), ?_⟩
  walk_at "st"
  refine ⟨_, _, _, rfl, rfl, T.t_LIMITS _ _ hm, ?_⟩
  walk_at "st"
  refine ite_d (fun c => ?_) (fun c => ?_)
  · walk_at "st"
    exact r_mk1 (hb c)
  · walk_at "st"
    exact hg c

/-! ### rows of D(0, r) .. D(d, r) -/
def rowV (d r : Nat) : List V := (List.range (d + 1)).map fun i => V.int (Del.D i r : Nat)
theorem rowV_len (d r : Nat) : (rowV d r).length = d + 1 := by rw [rowV, List.length_map, List.length_range]
theorem rowV_at {d r i : Nat} (h : i ≤ d) : (rowV d r)[i]? = some (V.int (Del.D i r : Nat)) := by
  rw [rowV, List.getElem?_map, List.getElem?_range (by omega)]
  rfl
theorem rowV_snoc (d r : Nat) : rowV (d + 1) r = rowV d r ++ [V.int (Del.D (d + 1) r : Nat)] := by rw [rowV, List.range_succ, List.map_append]; rfl
theorem at_row {d r i : Nat} {z : Int} (e : z = (i : Int)) (h : i ≤ d) : atI (rowV d r) z = some (V.int (Del.D i r : Nat)) := by rw [e]; exact atI_nat (rowV_at h)
def spNext (K : PySem.W.Frag) : Sp := fun vs H Q _ => ∃ (a : Addr) (d r : Nat), vs = [.ref a] ∧ SqL K H a (rowV d r) ∧ d ≤ 1000 ∧ ∀ p H', H p = none → Ext H H' → H' p = some (.lst (rowV d (r + 1))) → Q (.ref p) H'
theorem sc_next_row : FnScope ["row", "found", "at"] ["row"] (defScope s_next_row) := ⟨rfl, rfl, rfl, by decide +kernel, rfl, by decide +kernel, by decide +kernel⟩
theorem ok_next_row (T : Txt w K mg) : CalG P w K mg base 2 "next_row" ["row"] (spNext K) := by
  refine calG_of T.g_next_row T.d_next_row sc_next_row (fun _ _ _ _ _ _ _ us hl => match us, hl with | [_], _ => rfl) (fun vs H Q E h => by obtain ⟨c, k, n, rfl, _⟩ := h; rfl) (fun cdv A outer s H vs Q E hr h => ?_)
  have nd := sc_next_row.nd
  have hu := hu64 hr
  obtain ⟨a, d, r, rfl, ha, hd, k⟩ := h
  refine ⟨_, (pss_cons (ps_set (i := 1) nd rfl (Or.inl rfl) (pe_lst (pa_cons pe_int pa_nil)))
        (pss_cons (ps_for (passes_of rfl) rfl (pi_range2 (by rfl) T.f_range (pa_cons pe_int (pa_cons (pe_callB (lenK (K := K)) (by rfl) T.f_len boot_len (pa_cons (pv 0) pa_nil)) pa_nil))) (pg_name (i := 2) nd rfl (Or.inl rfl)) (pss_one (ps_expr (peBM (K := K) (pe_bm PySem.F.plainAttrs_list PySem.F.slot_list_append PySem.F.type_list_append mt_append (pv 1) (pa_cons (pe_op (plusK (K := K)) (pe_op (plusK (K := K)) (pe_ix (ixK (K := K)) (pv 1) (pe_op op_sub (pv 2) pe_int) (fun _ _ => rfl)) (pe_ix (ixK (K := K)) (pv 0) (pv 2) (fun _ _ => rfl))) (pe_ix (ixK (K := K)) (pv 0) (pe_op op_sub (pv 2) pe_int) (fun _ _ => rfl))) pa_nil))))))
        (pss_one (ps_ret (pv 1))))), ?_⟩
  walk_at "st"
  intro p H1 hp e1 h1
  walk_at "st"
  refine ⟨a, _, rfl, .inl (e1.l ha), ?_⟩
  walk_at "st"
  rw [rowV_len]
  walk_at "st"
  have en : (((d + 1 : Nat) : Int) - 1).toNat = d := by omega
  rw [en]
  refine forW_range (fun i σ' H' => ∃ v, σ' = [some (.ref a), some (.ref p), v] ∧ Ext H H' ∧ H' p = some (.lst (rowV i (r + 1)))) ⟨none, rfl, e1, ?_⟩ ?_ ?_
  · rw [h1, rowV]
    simp [Del.D_z]
  · rintro i σ' H' hi ⟨v, rfl, e, hf⟩
    walk_at "st"
    refine ⟨.inl ⟨rfl, _, sqL hf⟩, ?_⟩
    walk_at "st"
    refine r_atL (sqL hf) (at_row (i := i) (by omega) (Nat.le_refl _)) ?_
    walk_at "st"
    refine r_atL (e.l ha) (at_row (i := i + 1) (by omega) (by omega)) ?_
    walk_at "st"
    refine r_atL (e.l ha) (at_row (i := i) (by omega) (by omega)) ?_
    walk_at "st"
    refine r_app hf (by rw [rowV_len]; omega) (fun H2 h2 m2 => ?_)
    refine ⟨_, rfl, mut_ext e hp m2, ?_⟩
    rw [h2, rowV_snoc]
    have z : ((Del.D i (r + 1) : Nat) : Int) + ((Del.D (i + 1) r : Nat) : Int) + ((Del.D i r : Nat) : Int) = ((Del.D (i + 1) (r + 1) : Nat) : Int) := by rw [Del.D_s]; omega
    rw [z]
  · rintro σ' H' ⟨v, rfl, e, hf⟩
    walk_at "st"
    exact k p H' hp e hf
def spSmall (K : PySem.W.Frag) : Sp := fun vs H Q E => ∃ (n : Int), vs = [.int n] ∧
  (100 < n → ∀ d H', H d = none → Ext H H' → H' d = some (.xd [("what", .str "reach")]) → E (.ref (He.ga K "TooMany")) (some d) H') ∧ (¬ 100 < n → Q .non H)
theorem sc_bound_small : FnScope ["number"] ["number"] (defScope s_bound_small) := ⟨rfl, rfl, rfl, by decide +kernel, rfl, by decide +kernel, by decide +kernel⟩
theorem ok_bound_small (T : Txt w K mg) : CalG P w K mg base 4 "bound_small" ["number"] (spSmall K) := by
  have c_TooMany : ErrI P w K mg base "TooMany" ["self", "what"] _ := ci_TooMany T
  refine calG_of T.g_bound_small T.d_bound_small sc_bound_small (fun _ _ _ _ _ _ _ us hl => match us, hl with | [_], _ => rfl) (fun vs H Q E h => by obtain ⟨n, rfl, _⟩ := h; rfl) (fun cdv A outer s H vs Q E hr h => ?_)
  have nd := sc_bound_small.nd
  have hu := hu64 hr
  obtain ⟨n, rfl, hb, hg⟩ := h
  refine ⟨_, (pss_one (ps_if (pt_cmpR op_gt (pv 0) pe_int (nomark _)) (pss_one (L2N.ps_raise rfl (L2N.takes_of rfl rfl rfl rfl) (pmk_errI T.e_TooMany c_TooMany hr (by decide) T.g_TooMany (pa_cons pe_str pa_nil)))) pss_nil)), ?_⟩
  walk_at "st"
  refine ite_d (fun c => ?_) (fun c => ?_)
  · walk_at "st"
    exact r_mk1 (hb c)
  · walk_at "st"
    exact hg c
def spReach (K : PySem.W.Frag) : Sp := fun vs H Q E => ∃ (d r : Int), vs = [.int d, .int r] ∧ (100 < d ∨ 100 < r → Bad K E H "TooMany" "reach") ∧ (d ≤ 100 → r ≤ 100 → d < 0 → Bad K E H "BadLayout" "depth") ∧ (d ≤ 100 → r ≤ 100 → 0 ≤ d → r < 0 → Bad K E H "BadLayout" "load") ∧
  (d ≤ 100 → r ≤ 100 → 0 ≤ d → 0 ≤ r → ∀ H', Ext H H' → Q (.int (Del.D d.toNat r.toNat : Nat)) H')
theorem row_start (d : Nat) : (List.replicate (d + 1) [V.int 1]).flatten = rowV d 0 := by
  rw [rowV]
  induction d with
  | zero => simp [Del.D_0]
  | succ d ih =>
    rw [List.replicate_succ', List.flatten_append, ih, List.range_succ (n := d + 1), List.map_append]
    simp [Del.D_0]
theorem sc_reach_of : FnScope ["d", "r", "row", "step"] ["d", "r"] (defScope s_reach_of) := ⟨rfl, rfl, rfl, by decide +kernel, rfl, by decide +kernel, by decide +kernel⟩
theorem ok_reach_of (T : Txt w K mg) : CalG P w K mg base 6 "reach_of" ["d", "r"] (spReach K) := by
  have c_BadLayout : ErrI P w K mg base "BadLayout" ["self", "what"] _ := ci_BadLayout T
  have c_bound_small := ok_bound_small (P := P) (base := base) T
  have c_next_row := ok_next_row (P := P) (base := base) T
  refine calG_of T.g_reach_of T.d_reach_of sc_reach_of (fun _ _ _ _ _ _ _ us hl => match us, hl with | [_, _], _ => rfl) (fun vs H Q E h => by obtain ⟨d, r, rfl, _⟩ := h; rfl) (fun cdv A outer s H vs Q E hr h => ?_)
  have nd := sc_reach_of.nd
  have hu := hu64 hr
  obtain ⟨d, r, rfl, b1, b2, b3, k⟩ := h
  refine ⟨_, (pss_cons (ps_expr (pe_cal c_bound_small hr (by omega) (fun σ => L2N.passAt (L2N.takes_of rfl rfl rfl rfl) σ) (pa_cons (pv 0) pa_nil)))
        (pss_cons (ps_expr (pe_cal c_bound_small hr (by omega) (fun σ => L2N.passAt (L2N.takes_of rfl rfl rfl rfl) σ) (pa_cons (pv 1) pa_nil)))
        (pss_cons (ps_if (pt_cmpR op_lt (pv 0) pe_int (nomark _)) (pss_one (L2N.ps_raise rfl (L2N.takes_of rfl rfl rfl rfl) (pmk_errI T.e_BadLayout c_BadLayout hr (by decide) T.g_BadLayout (pa_cons pe_str pa_nil)))) pss_nil)
        (pss_cons (ps_if (pt_cmpR op_lt (pv 1) pe_int (nomark _)) (pss_one (L2N.ps_raise rfl (L2N.takes_of rfl rfl rfl rfl) (pmk_errI T.e_BadLayout c_BadLayout hr (by decide) T.g_BadLayout (pa_cons pe_str pa_nil)))) pss_nil)
        (pss_cons (ps_set (i := 2) nd rfl (Or.inl rfl) (pe_op op_timesB (pe_lst (pa_cons pe_int pa_nil)) (pe_op (plusK (K := K)) (pv 0) pe_int)))
        (pss_cons (ps_for (passes_of rfl) rfl (pi_range1 (by rfl) T.f_range (pa_cons (pv 1) pa_nil)) (pg_name (i := 3) nd rfl (Or.inl rfl)) (pss_one (ps_set (i := 2) nd rfl (Or.inl rfl) (pe_cal c_next_row hr (by omega) (fun σ => L2N.passAt (L2N.takes_of rfl rfl rfl rfl) σ) (pa_cons (pv 2) pa_nil)))))
        (pss_one (ps_ret (pe_ix (ixK (K := K)) (pv 2) (pv 0) (fun _ _ => rfl)))))))))), ?_⟩
  walk_at "st"
  refine ⟨d, rfl, fun c => b1 (.inl c), fun c1 => ?_⟩
  walk_at "st"
  refine ⟨r, rfl, fun c => b1 (.inr c), fun c2 => ?_⟩
  walk_at "st"
  refine ite_d (fun c3 => ?_) (fun c3 => ?_)
  · walk_at "st"
    exact r_mk1 (b2 (by omega) (by omega) c3)
  walk_at "st"
  refine ite_d (fun c4 => ?_) (fun c4 => ?_)
  · walk_at "st"
    exact r_mk1 (b3 (by omega) (by omega) (by omega) c4)
  walk_at "st"
  intro p H1 hp e1 h1
  walk_at "st"
  refine r_repL h1 (by omega) (by omega) (by simp; omega) (fun p2 H2 hp2 e2 h2 => ?_)
  walk_at "st"
  have en : (d + 1).toNat = d.toNat + 1 := by omega
  rw [en, row_start] at h2
  refine forW_range (fun i σ' H' => ∃ (q : Addr) (v : Option V), σ' = [some (.int d), some (.int r), some (.ref q), v] ∧ Ext H H' ∧ H' q = some (.lst (rowV d.toNat i))) ⟨p2, none, rfl, e1.trans e2, h2⟩ ?_ ?_
  · rintro i σ' H' hi ⟨q, v, rfl, e, hq⟩
    walk_at "st"
    refine ⟨q, d.toNat, i, rfl, sqL hq, by omega, fun p' H3 hp' e3 h3 => ?_⟩
    walk_at "st"
    exact ⟨p', _, rfl, e.trans e3, h3⟩
  · rintro σ' H' ⟨q, v, rfl, e, hq⟩
    walk_at "st"
    refine r_atL (sqL hq) (at_row (i := d.toNat) (by omega) (Nat.le_refl _)) ?_
    exact k (by omega) (by omega) (by omega) (by omega) H' e
/-- the least r with n at most D(number, r) -/
def spOther (K : PySem.W.Frag) : Sp := fun vs H Q _ => ∃ (n : Int) (m : Nat), vs = [.int n, .int m] ∧ n ≤ 10000 ∧ 1 ≤ m ∧ m ≤ 100 ∧ ∀ (r : Nat) H', Del.Least n.toNat m r → Ext H H' → Q (.int r) H'
theorem sc_least_other : FnScope ["n", "number", "row", "found"] ["n", "number"] (defScope s_least_other) := ⟨rfl, rfl, rfl, by decide +kernel, rfl, by decide +kernel, by decide +kernel⟩
theorem ok_least_other (T : Txt w K mg) : CalG P w K mg base 3 "least_other" ["n", "number"] (spOther K) := by
  have c_next_row := ok_next_row (P := P) (base := base) T
  refine calG_of T.g_least_other T.d_least_other sc_least_other (fun _ _ _ _ _ _ _ us hl => match us, hl with | [_, _], _ => rfl) (fun vs H Q E h => by obtain ⟨n, m, rfl, _⟩ := h; rfl) (fun cdv A outer s H vs Q E hr h => ?_)
  have nd := sc_least_other.nd
  have hu := hu64 hr
  obtain ⟨n, m, rfl, hn, m1, m2, k⟩ := h
  refine ⟨_, (pss_cons (ps_set (i := 2) nd rfl (Or.inl rfl) (pe_op op_timesB (pe_lst (pa_cons pe_int pa_nil)) (pe_op (plusK (K := K)) (pv 1) pe_int)))
        (pss_cons (ps_set (i := 3) nd rfl (Or.inl rfl) pe_int)
        (pss_cons (ps_while (passes_of rfl) (pt_cmpR op_lt (pe_ix (ixK (K := K)) (pv 2) (pv 1) (fun _ _ => rfl)) (pv 0) (nomark _)) (pss_cons (ps_set (i := 2) nd rfl (Or.inl rfl) (pe_cal c_next_row hr (by omega) (fun σ => L2N.passAt (L2N.takes_of rfl rfl rfl rfl) σ) (pa_cons (pv 2) pa_nil)))
        (pss_one (ps_aug (i := 3) nd rfl (Or.inl rfl) pe_int ip_add))))
        (pss_one (ps_ret (pv 3)))))), ?_⟩
  walk_at "st"
  intro p H1 hp e1 h1
  walk_at "st"
  refine r_repL h1 (by omega) (by omega) (by simp; omega) (fun p2 H2 hp2 e2 h2 => ?_)
  walk_at "st"
  have en : ((m : Int) + 1).toNat = m + 1 := by omega
  rw [en, row_start] at h2
  refine whileW (fun μ σ' H' => ∃ (q : Addr) (r : Nat), μ = n.toNat - r ∧ σ' = [some (.int n), some (.int m), some (.ref q), some (.int r)] ∧ Ext H H' ∧ H' q = some (.lst (rowV m r)) ∧ ∀ r', r' < r → Del.D m r' < n.toNat) n.toNat
    ⟨p2, 0, rfl, rfl, e1.trans e2, h2, fun _ h => absurd h (Nat.not_lt_zero _)⟩ ?_
  rintro μ σ' H' ⟨q, r, rfl, rfl, e, hq, hl⟩
  walk_at "st"
  refine r_atL (sqL hq) (at_row (i := m) rfl (Nat.le_refl _)) ?_
  walk_at "st"
  refine ite_d (fun c => r_N ?_) (fun c => ?_)
  · walk_at "st"
    refine ⟨q, m, r, rfl, sqL hq, by omega, fun p' H3 hp' e3 h3 => ?_⟩
    walk_at "st"
    have g := Del.D_ge m r m1
    refine ⟨n.toNat - (r + 1), by omega, p', r + 1, rfl, rfl, e.trans e3, h3, fun r' hr' => ?_⟩
    by_cases er : r' = r
    · subst er; omega
    · exact hl r' (by omega)
  · walk_at "st"
    exact k r H' ⟨by omega, hl⟩ e
def spLeast (K : PySem.W.Frag) (second : Str) : Sp := fun vs H Q E => ∃ (n d : Int), vs = [.int n, .int d] ∧ (10000 < n ∨ 100 < d → Bad K E H "TooMany" "reach") ∧ (n ≤ 10000 → d ≤ 100 → n < 1 → Bad K E H "BadLayout" "parts") ∧ (n ≤ 10000 → d ≤ 100 → 1 ≤ n → d < 1 → Bad K E H "BadLayout" second) ∧
  (n ≤ 10000 → d ≤ 100 → 1 ≤ n → 1 ≤ d → ∀ (r : Nat) H', Del.Least n.toNat d.toNat r → Ext H H' → Q (.int r) H')
theorem sc_least_changed : FnScope ["n", "d"] ["n", "d"] (defScope s_least_changed) := ⟨rfl, rfl, rfl, by decide +kernel, rfl, by decide +kernel, by decide +kernel⟩
theorem ok_least_changed (T : Txt w K mg) : CalG P w K mg base 6 "least_changed" ["n", "d"] (spLeast K "depth") := by
  have c_BadLayout : ErrI P w K mg base "BadLayout" ["self", "what"] _ := ci_BadLayout T
  have c_bound := ok_bound (P := P) (base := base) T
  have c_bound_small := ok_bound_small (P := P) (base := base) T
  have c_least_other := ok_least_other (P := P) (base := base) T
  refine calG_of T.g_least_changed T.d_least_changed sc_least_changed (fun _ _ _ _ _ _ _ us hl => match us, hl with | [_, _], _ => rfl) (fun vs H Q E h => by obtain ⟨d, r, rfl, _⟩ := h; rfl) (fun cdv A outer s H vs Q E hr h => ?_)
  have nd := sc_least_changed.nd
  have hu := hu64 hr
  obtain ⟨n, d, rfl, b1, b2, b3, k⟩ := h
  refine ⟨_, (pss_cons (ps_expr (pe_cal c_bound hr (by omega) (fun σ => L2N.passAt (L2N.takes_of rfl rfl rfl rfl) σ) (pa_cons pe_str (pa_cons (pv 0) pa_nil))))
        (pss_cons (ps_expr (pe_cal c_bound_small hr (by omega) (fun σ => L2N.passAt (L2N.takes_of rfl rfl rfl rfl) σ) (pa_cons (pv 1) pa_nil)))
        (pss_cons (ps_if (pt_cmpR op_lt (pv 0) pe_int (nomark _)) (pss_one (L2N.ps_raise rfl (L2N.takes_of rfl rfl rfl rfl) (pmk_errI T.e_BadLayout c_BadLayout hr (by decide) T.g_BadLayout (pa_cons pe_str pa_nil)))) pss_nil)
        (pss_cons (ps_if (pt_cmpR op_lt (pv 1) pe_int (nomark _)) (pss_one (L2N.ps_raise rfl (L2N.takes_of rfl rfl rfl rfl) (pmk_errI T.e_BadLayout c_BadLayout hr (by decide) T.g_BadLayout (pa_cons pe_str pa_nil)))) pss_nil)
        (pss_one (ps_ret (pe_cal c_least_other hr (by omega) (fun σ => L2N.passAt (L2N.takes_of rfl rfl rfl rfl) σ) (pa_cons (pv 0) (pa_cons (pv 1) pa_nil))))))))), ?_⟩
  walk_at "st"
  refine ⟨_, 10000, n, rfl, by simp [kv_LIMITS], fun c => b1 (.inl c), fun c1 => ?_⟩
  walk_at "st"
  refine ⟨d, rfl, fun c => b1 (.inr c), fun c2 => ?_⟩
  walk_at "st"
  refine ite_d (fun c3 => ?_) (fun c3 => ?_)
  · walk_at "st"
    exact r_mk1 (b2 (by omega) (by omega) c3)
  walk_at "st"
  refine ite_d (fun c4 => ?_) (fun c4 => ?_)
  · walk_at "st"
    exact r_mk1 (b3 (by omega) (by omega) (by omega) c4)
  walk_at "st"
  refine ⟨n, d.toNat, by rw [Int.toNat_of_nonneg (by omega)], by omega, by omega, by omega, fun r H' hl e => ?_⟩
  exact k (by omega) (by omega) (by omega) (by omega) r H' hl e
theorem sc_least_read : FnScope ["n", "r"] ["n", "r"] (defScope s_least_read) := ⟨rfl, rfl, rfl, by decide +kernel, rfl, by decide +kernel, by decide +kernel⟩
theorem ok_least_read (T : Txt w K mg) : CalG P w K mg base 6 "least_read" ["n", "r"] (spLeast K "load") := by
  have c_BadLayout : ErrI P w K mg base "BadLayout" ["self", "what"] _ := ci_BadLayout T
  have c_bound := ok_bound (P := P) (base := base) T
  have c_bound_small := ok_bound_small (P := P) (base := base) T
  have c_least_other := ok_least_other (P := P) (base := base) T
  refine calG_of T.g_least_read T.d_least_read sc_least_read (fun _ _ _ _ _ _ _ us hl => match us, hl with | [_, _], _ => rfl) (fun vs H Q E h => by obtain ⟨d, r, rfl, _⟩ := h; rfl) (fun cdv A outer s H vs Q E hr h => ?_)
  have nd := sc_least_read.nd
  have hu := hu64 hr
  obtain ⟨n, d, rfl, b1, b2, b3, k⟩ := h
  refine ⟨_, (pss_cons (ps_expr (pe_cal c_bound hr (by omega) (fun σ => L2N.passAt (L2N.takes_of rfl rfl rfl rfl) σ) (pa_cons pe_str (pa_cons (pv 0) pa_nil))))
        (pss_cons (ps_expr (pe_cal c_bound_small hr (by omega) (fun σ => L2N.passAt (L2N.takes_of rfl rfl rfl rfl) σ) (pa_cons (pv 1) pa_nil)))
        (pss_cons (ps_if (pt_cmpR op_lt (pv 0) pe_int (nomark _)) (pss_one (L2N.ps_raise rfl (L2N.takes_of rfl rfl rfl rfl) (pmk_errI T.e_BadLayout c_BadLayout hr (by decide) T.g_BadLayout (pa_cons pe_str pa_nil)))) pss_nil)
        (pss_cons (ps_if (pt_cmpR op_lt (pv 1) pe_int (nomark _)) (pss_one (L2N.ps_raise rfl (L2N.takes_of rfl rfl rfl rfl) (pmk_errI T.e_BadLayout c_BadLayout hr (by decide) T.g_BadLayout (pa_cons pe_str pa_nil)))) pss_nil)
        (pss_one (ps_ret (pe_cal c_least_other hr (by omega) (fun σ => L2N.passAt (L2N.takes_of rfl rfl rfl rfl) σ) (pa_cons (pv 0) (pa_cons (pv 1) pa_nil))))))))), ?_⟩
  walk_at "st"
  refine ⟨_, 10000, n, rfl, by simp [kv_LIMITS], fun c => b1 (.inl c), fun c1 => ?_⟩
  walk_at "st"
  refine ⟨d, rfl, fun c => b1 (.inr c), fun c2 => ?_⟩
  walk_at "st"
  refine ite_d (fun c3 => ?_) (fun c3 => ?_)
  · walk_at "st"
    exact r_mk1 (b2 (by omega) (by omega) c3)
  walk_at "st"
  refine ite_d (fun c4 => ?_) (fun c4 => ?_)
  · walk_at "st"
    exact r_mk1 (b3 (by omega) (by omega) (by omega) c4)
  walk_at "st"
  refine ⟨n, d.toNat, by rw [Int.toNat_of_nonneg (by omega)], by omega, by omega, by omega, fun r H' hl e => ?_⟩
  exact k (by omega) (by omega) (by omega) (by omega) r H' hl e

/-! ### least_sizes -/
def leastSizes (c k : Int) : Int := if c = 0 ∨ k = 0 then 0 else if k = 1 then c else (k * (c + 1) + 1) / 2
def spLS : Sp := fun vs H Q _ => ∃ c k : Int, vs = [.int c, .int k] ∧ (0 ≤ c ∧ c < 2 ^ 200) ∧ (0 ≤ k ∧ k < 2 ^ 200) ∧ Q (.int (leastSizes c k)) H
theorem sc_least_sizes : FnScope ["c", "k"] ["c", "k"] (defScope s_least_sizes) := ⟨rfl, rfl, rfl, by decide +kernel, rfl, by decide +kernel, by decide +kernel⟩
theorem ok_least_sizes (T : Txt w K mg) : CalG P w K mg base 2 "least_sizes" ["c", "k"] spLS := by
  refine calG_of T.g_least_sizes T.d_least_sizes sc_least_sizes (fun _ _ _ _ _ _ _ us hl => match us, hl with | [_, _], _ => rfl) (fun vs H Q E h => by obtain ⟨c, k, rfl, _⟩ := h; rfl) (fun cdv A outer s H vs Q E hr h => ?_)
  have nd := sc_least_sizes.nd
  have hu := hu64 hr
  obtain ⟨c, k, rfl, ⟨c0, c1⟩, ⟨k0, k1⟩, q⟩ := h
  refine ⟨_, (pss_cons (ps_if (PW.pt (pw_or (pt_cmpR (sameK (K := K) hu) (pv 0) pe_int (nomark _)) (pw_or1 (pt_cmpR (sameK (K := K) hu) (pv 1) pe_int (nomark _))))) (pss_one (ps_ret pe_int)) pss_nil)
        (pss_cons (ps_if (pt_cmpR (sameK (K := K) hu) (pv 1) pe_int (nomark _)) (pss_one (ps_ret (pv 0))) pss_nil)
        (pss_one (ps_ret (pe_op op_fdivW (pe_op (plusK (K := K)) (pe_op op_timesB (pv 1) (pe_op (plusK (K := K)) (pv 0) pe_int)) pe_int) pe_int))))), ?_⟩
  walk_at "st"
  refine ite_d (fun h => ?_) (fun h => ?_)
  · walk_at "st"
    rw [leastSizes, if_pos (Or.inl (V.int.inj h))] at q
    exact q
  · walk_at "st"
    refine ite_d (fun h2 => ?_) (fun h2 => ?_)
    · walk_at "st"
      rw [leastSizes, if_pos (Or.inr (V.int.inj h2))] at q
      exact q
    · walk_at "st"
      have hc : c ≠ 0 := fun e => h (by rw [e])
      have hk : k ≠ 0 := fun e => h2 (by rw [e])
      rw [leastSizes, if_neg (by omega)] at q
      refine ite_d (fun h3 => ?_) (fun h3 => ?_)
      · walk_at "st"
        rw [if_pos (V.int.inj h3)] at q
        exact q
      · walk_at "st"
        refine r_timesB (.inl (wide_mul (a := 200) (b := 201) (by omega) (by omega) (by omega) (by omega) (by omega))) ?_
        walk_at "st"
        refine r_I ⟨by decide, by decide⟩ ?_
        rw [if_neg (fun e => h3 (by rw [e]))] at q
        exact q
end
end K25
set_option maxRecDepth 100000
set_option maxHeartbeats 4000000
namespace K25
open PySem PySem.Spec PyProof.Rows L2 L3
local macro_rules | `(tactic| walk_at "s1") => `(tactic| first
  | with_reducible refine r_seq ?_
  | with_reducible refine r_asgN ?_
  | with_reducible refine r_ret ?_
  | with_reducible refine r_next ?_
  | ((with_reducible refine' r_var ?hv ?_); (case hv => exact rfl))
  | with_reducible refine r_c ?_
  | with_reducible refine r_op ?_
  | with_reducible refine r_cons ?_
  | with_reducible refine r_nil ?_
  | with_reducible refine r_plusI ?_
  | with_reducible refine r_I0 ?_
  | with_reducible refine r_test ?_
  | with_reducible refine r_bl ?_
  | with_reducible refine r_ifS ?_
  | with_reducible refine r_cb ?_
  | with_reducible refine r_callS ?_
  | with_reducible refine r_and ?_
  | with_reducible refine r_or ?_
  | with_reducible refine r_not ?_
  | with_reducible refine r_B ?_
  | ((with_reducible refine' r_aug ?hv ?_); (case hv => exact rfl))
  | with_reducible refine r_augS ?_
  | with_reducible refine r_ipI ?_
  | with_reducible refine r_asg ?_
  | with_reducible refine r_sub ?_
  | with_reducible refine r_brk ?_
  | with_reducible refine r_isN1 ?_
  | with_reducible refine r_notN1 ?_
  | with_reducible refine r_intI ?_
  | with_reducible refine r_abs ?_
  | with_reducible refine r_min ?_
  | with_reducible refine r_max ?_
  | ((with_reducible refine' r_mod ?hz ?_); (case hz => omega))
  | ((with_reducible refine' r_pow ?hz ?_); (case hz => exact ⟨by decide, by decide, by decide⟩))
  | ((with_reducible refine' r_rg1 ?hz ?_); (case hz => omega))
  | ((with_reducible refine' r_rg2 ?hz ?_); (case hz => omega))
  | ((with_reducible refine' r_newL ?hz ?_); (case hz => exact Nat.le_of_ble_eq_true rfl))
  | ((with_reducible refine' r_newT ?hz ?_); (case hz => exact Nat.le_of_ble_eq_true rfl))
  | with_reducible refine r_for ?_
  | with_reducible refine r_lc ?_
  | with_reducible refine r_iR1 ?_
  | with_reducible refine r_iR2 ?_
  | with_reducible refine r_iL ?_
  | with_reducible refine r_iT ?_
  | with_reducible refine r_gname ?_
  | with_reducible refine r_gcons ?_
  | with_reducible refine r_gnil ?_
  | with_reducible refine r_yes ?_
  | with_reducible refine r_mkO ?_
  | with_reducible refine r_cont ?_
  | with_reducible refine r_drop ?_
  | with_reducible refine r_retN ?_
  | with_reducible refine r_ifC ?_
  | with_reducible refine r_ifI ?_
  | with_reducible refine r_if ?_
  | with_reducible refine r_un ?_
  | with_reducible refine r_neg ?_
  | with_reducible refine r_andV ?_
  | with_reducible refine r_orV ?_
  | with_reducible refine r_notV ?_
  | with_reducible refine r_tup ?_
  | with_reducible refine r_lst ?_
  | with_reducible refine r_bm ?_
  | with_reducible refine r_bm0 ?_
  | with_reducible refine r_sl ?_
  | with_reducible refine r_chain ?_
  | with_reducible refine r_noPart ?_
  | with_reducible refine r_part ?_
  | with_reducible refine r_int ?_
  | ((with_reducible refine' r_sameS ?hs ?_); (case hs => exact rfl))
  | ((with_reducible refine' r_otherS ?hs ?_); (case hs => exact rfl))
  | with_reducible refine ite_t ?_
  | with_reducible refine ite_f ?_
  | with_reducible refine ite_nt ?_
  | with_reducible refine ite_nf ?_)
local macro_rules | `(tactic| walk_at "st") => `(tactic| repeat (walk_at "s1"))

section
variable {P : Program} {w : World} {K : PySem.W.Frag} {mg : Str → Option Value} {base : Heap}
/-! ### draws -/
theorem sc__law_source : FnScope ["script", "at", "cell", "size", "small", "one"] ["script", "at"] (defScope s__law_source) := ⟨rfl, rfl, rfl, by decide +kernel, rfl, by decide +kernel, by decide +kernel⟩
theorem ok_law_source (T : Txt w K mg) : CalG P w K mg base 2 "_law_source" ["script", "at"] (spSource K) := by
  refine calG_of T.g__law_source T.d__law_source sc__law_source (fun _ _ _ _ _ _ _ us hl => match us, hl with | [_, _], _ => rfl) (fun vs H Q E h => by obtain ⟨c, k, n, rfl, _⟩ := h; rfl) (fun cdv A outer s H vs Q E hr h => ?_)
  have nd := sc__law_source.nd
  have hu := hu64 hr
  obtain ⟨a, ns, t, rfl, ha, hn, ht, k⟩ := h
  refine ⟨_, (C8.pss_cut (ps_set (i := 2) nd rfl (Or.inl rfl) (pe_ifExp (pt_cmpR op_lt (pv 1) (pe_callB (lenK (K := K)) (by rfl) T.f_len boot_len (pa_cons (pv 0) pa_nil)) (nomark _)) (pe_callTy cr_int (by rfl) T.f_int (by decide +kernel) (pa_cons (pe_ix (ixK (K := K)) (pv 0) (pv 1) (fun _ _ => rfl)) pa_nil)) (pe_op (plusK (K := K)) (pe_op op_timesB pe_int (pe_callB (sumK (K := K) rfl) (by rfl) T.f_sum (by decide +kernel) (pa_cons (pe_lc (own := [("one", 5)]) rfl nd (piL (K := K) (pe_slice (slK (K := K)) (pv 0) po_none (po_some pe_int))) (blkOk_by (N := ["script", "at", "cell", "size", "small", "one"]) (sc := defScope s__law_source) (by decide +kernel)) (fun _ _ _ _ _ => (pg_name (i := 5) nd rfl (Or.inl rfl))) (fun _ _ _ _ _ => pts_nil) (fun _ _ _ _ _ => (pe_op op_mod (pe_callTy cr_int (by rfl) T.f_int (by decide +kernel) (pa_cons (pv 5) pa_nil)) pe_int))) pa_nil))) pe_int)))
        (C8.pss_cut (ps_set (i := 3) nd rfl (Or.inl rfl) (pe_op op_mod (pe_callB cr_abs (by rfl) T.f_abs (by decide +kernel) (pa_cons (pv 2) pa_nil)) (pe_op op_timesB (pe_op op_pow pe_int pe_int) (pe_op op_pow pe_int pe_int))))
        (C8.pss_cut (ps_set (i := 4) nd rfl (Or.inl rfl) (pe_op op_mod (pe_callTy cr_int (by rfl) T.f_int (by decide +kernel) (pa_cons (pe_op (plusK (K := K)) (pe_op (plusK (K := K)) (pe_op (plusK (K := K)) (pe_op op_timesB pe_int (pv 3)) (pe_ifExp (pt_cmpR op_lt (pv 2) pe_int (nomark _)) pe_int pe_int)) (pe_op op_timesB (pv 1) pe_int)) pe_int) pa_nil)) pe_int))
        (pss_one (ps_ret (pe_lst (pa_cons (pe_ifExp (pt_cmpR op_ge (pv 3) (pe_op op_pow pe_int pe_int) (nomark _)) (pv 3) pe_int) (pa_cons (pe_op op_mod (pe_callTy cr_int (by rfl) T.f_int (by decide +kernel) (pa_cons (pe_op op_timesB (pe_op (plusK (K := K)) (pv 4) pe_int) (pe_op (plusK (K := K)) (pv 4) pe_int)) pa_nil)) pe_int) (pa_cons (pv 1) pa_nil))))))))), ?_⟩
  refine r_cut (fun σ' H' => ∃ cell : Int, σ' = [some (.ref a), some (.int t), some (.int cell), none, none, none] ∧ Ext H H') ?_ ?_
  · walk_at "st"
    refine r_lenL ha (by rw [List.length_map]) ?_
    walk_at "st"
    refine ite_d (fun c => ?_) (fun c => ?_)
    · obtain ⟨z, hz⟩ : ∃ z, ns[t]? = some z := ⟨ns[t]'(by omega), by simp⟩
      walk_at "st"
      refine r_atL ha (atI_nat (j := t) (v := .int z) (by rw [List.getElem?_map, hz]; rfl)) ?_
      walk_at "st"
      exact ⟨z, rfl, Ext.rfl⟩
    · walk_at "st"
      refine r_slL ha (fun l H1 hl e1 h1 => ?_)
      have hc : cutV (ns.map V.int) none (some 6) = (ns.take 6).map V.int := by rw [List.map_take]; exact cut_to _ 6
      rw [hc] at h1
      refine r_li (sqL h1) ?_
      intro Dl hD
      refine lcW_list (xs := (ns.take 6).map V.int) (LcP H1 Dl fun i => .int ((ns.take 6).getD i 0 % 999979)) (.start hD) (fun i H' _ p => p.e.l (sqL h1)) ?_ ?_
      · intro i x H' hx p
        obtain ⟨hi, rfl⟩ := ints_get hx
        have hl : (ns.take 6).length ≤ 63 := by rw [List.length_take]; omega
        walk_at "st"
        refine r_lcW rfl ?_
        walk_at "st"
        exact p.push hD (by omega) Ext.rfl rfl
      · intro H' p
        have hd := p.d
        rw [List.length_map, range_ints (ns.take 6) (fun z => z % 999979)] at hd
        walk_at "st"
        refine r_sum (sqL hd) ?_
        refine r_timesB (cmL (by decide) (by decide)) ?_
        walk_at "st"
        exact ⟨_, rfl, e1.trans p.e⟩
  rintro σ' H1 ⟨cell, rfl, e1⟩
  refine r_cut (fun σ' H' => ∃ size : Int, σ' = [some (.ref a), some (.int t), some (.int cell), some (.int size), none, none] ∧ Ext H H') ?_ ?_
  · walk_at "st"
    refine r_timesB (.inl (wide_mul (a := 250) (b := 250) bd128 bd128 (by decide) (by decide) (by decide))) ?_
    refine r_mod pos128 ?_
    exact ⟨_, rfl, e1⟩
  rintro σ' H2 ⟨size, rfl, e2⟩
  refine r_cut (fun σ' H' => ∃ small : Int, σ' = [some (.ref a), some (.int t), some (.int cell), some (.int size), some (.int small), none] ∧ Ext H H' ∧ 0 ≤ small ∧ small < 2147483629) ?_ ?_
  · walk_at "st"
    refine r_timesB (cmL (by decide) (by decide)) ?_
    walk_at "st"
    refine r_timesB (cmR (by decide) (by decide)) ?_
    walk_at "st"
    exact ⟨_, rfl, e2, bd31 _⟩
  rintro σ' H3 ⟨small, rfl, e3, s0, s1⟩
  walk_at "st"
  refine ite_d (fun c => ?_) (fun c => ?_)
  all_goals
    walk_at "st"
    refine r_timesB (cmR (by omega) (by omega)) ?_
    walk_at "st"
    intro p H4 hp e4 h4
    exact k p H4 (e3.none hp) (e3.trans e4) ⟨_, _, _, h4⟩

theorem sc__law_pick : FnScope ["source", "many", "found"] ["source", "many"] (defScope s__law_pick) := ⟨rfl, rfl, rfl, by decide +kernel, rfl, by decide +kernel, by decide +kernel⟩
theorem ok_law_pick (T : Txt w K mg) : CalG P w K mg base 2 "_law_pick" ["source", "many"] spPick := by
  refine calG_of T.g__law_pick T.d__law_pick sc__law_pick (fun _ _ _ _ _ _ _ us hl => match us, hl with | [_, _], _ => rfl) (fun vs H Q E h => by obtain ⟨c, k, rfl, _⟩ := h; rfl) (fun cdv A outer s H vs Q E hr h => ?_)
  have nd := sc__law_pick.nd
  have hu := hu64 hr
  obtain ⟨p, m, rfl, ⟨a, b, c, hp⟩, m0, m1, k⟩ := h
  refine ⟨_, (pss_cons (ps_if (pt_cmpR op_gt (pe_ix (ixK (K := K)) (pv 0) pe_int (fun _ _ => rfl)) pe_int (nomark _)) (pss_cons (ps_set (i := 2) nd rfl (Or.inl rfl) (pe_op op_mod (pe_callTy cr_int (by rfl) T.f_int (by decide +kernel) (pa_cons (pe_ix (ixK (K := K)) (pv 0) pe_int (fun _ _ => rfl)) pa_nil)) (pv 1)))
        (pss_cons (ps_asg (pe_op op_fdivW (pe_ix (ixK (K := K)) (pv 0) pe_int (fun _ _ => rfl)) (pv 1)) (pg_sub (pv 0) pe_int set_list))
        (pss_one (ps_ret (pv 2))))) pss_nil)
        (pss_cons (ps_augS (pv 0) pe_int (getLK (K := K)) pe_int ip_add set_list)
        (pss_cons (ps_asg (pe_op op_mod (pe_callTy cr_int (by rfl) T.f_int (by decide +kernel) (pa_cons (pe_op (plusK (K := K)) (pe_op op_timesB (pe_ix (ixK (K := K)) (pv 0) pe_int (fun _ _ => rfl)) pe_int) (pe_op op_timesB (pe_ix (ixK (K := K)) (pv 0) pe_int (fun _ _ => rfl)) pe_int)) pa_nil)) pe_int) (pg_sub (pv 0) pe_int set_list))
        (pss_one (ps_ret (pe_op op_mod (pe_op op_fdivW (pe_op op_mod (pe_callTy cr_int (by rfl) T.f_int (by decide +kernel) (pa_cons (pe_op (plusK (K := K)) (pe_op op_timesB (pe_ix (ixK (K := K)) (pv 0) pe_int (fun _ _ => rfl)) pe_int) (pe_op op_timesB (pe_ix (ixK (K := K)) (pv 0) pe_int (fun _ _ => rfl)) pe_int)) pa_nil)) pe_int) pe_int) (pv 1))))))), ?_⟩
  walk_at "st"
  refine r_atL (sqL hp) (atI_nat (j := 0) rfl) ?_
  walk_at "st"
  refine ite_d (fun c0 => ?_) (fun c0 => ?_)
  · walk_at "st"
    refine r_atL (sqL hp) (atI_nat (j := 0) rfl) ?_
    walk_at "st"
    refine r_atL (sqL hp) (atI_nat (j := 0) rfl) ?_
    walk_at "st"
    refine r_div (cdW m0 m1) ?_
    walk_at "st"
    refine r_setL (j := 0) hp rfl (by simp) (fun H1 h1 m1 => ?_)
    walk_at "st"
    exact k _ H1 (Int.emod_nonneg _ (by omega)) (Int.emod_lt_of_pos _ m0) ⟨_, _, _, h1⟩ m1
  · walk_at "st"
    refine r_getL (sqL hp) (by decide) rfl ?_
    walk_at "st"
    refine r_setL (j := 2) hp rfl (by simp) (fun H1 h1 n1 => ?_)
    walk_at "st"
    refine r_atL (sqL h1) (atI_nat (j := 1) rfl) ?_
    walk_at "st"
    refine r_timesB (cmR (by decide) (by decide)) ?_
    walk_at "st"
    refine r_atL (sqL h1) (atI_nat (j := 2) rfl) ?_
    walk_at "st"
    refine r_timesB (cmR (by decide) (by decide)) ?_
    walk_at "st"
    refine r_setL (j := 1) h1 rfl (by simp) (fun H2 h2 n2 => ?_)
    walk_at "st"
    refine r_atL (sqL h2) (atI_nat (j := 1) rfl) ?_
    walk_at "st"
    refine r_timesB (cmR (by decide) (by decide)) ?_
    walk_at "st"
    refine r_atL (sqL h2) (atI_nat (j := 2) rfl) ?_
    walk_at "st"
    refine r_timesB (cmR (by decide) (by decide)) ?_
    walk_at "st"
    refine r_div (cdW (by decide) (by decide)) ?_
    walk_at "st"
    exact k _ H2 (Int.emod_nonneg _ (by omega)) (Int.emod_lt_of_pos _ m0) ⟨_, _, _, h2⟩ fun b hb => (n2 b hb).trans (n1 b hb)

theorem sc__law_shuffled : FnScope ["source", "things", "left", "found"] ["source", "things"] (defScope s__law_shuffled) := ⟨rfl, rfl, rfl, by decide +kernel, rfl, by decide +kernel, by decide +kernel⟩
theorem ok_law_shuffled (T : Txt w K mg) : CalG P w K mg base 3 "_law_shuffled" ["source", "things"] (spShuf K) := by
  have c__law_pick := ok_law_pick (P := P) (base := base) T
  refine calG_of T.g__law_shuffled T.d__law_shuffled sc__law_shuffled (fun _ _ _ _ _ _ _ us hl => match us, hl with | [_, _], _ => rfl) (fun vs H Q E h => by obtain ⟨c, k, xs, rfl, _⟩ := h; rfl) (fun cdv A outer s H vs Q E hr h => ?_)
  have nd := sc__law_shuffled.nd
  have hu := hu64 hr
  obtain ⟨p, t, xs, rfl, hs, ht, hl, k⟩ := h
  refine ⟨_, (pss_cons (ps_set (i := 2) nd rfl (Or.inl rfl) (pe_callTy (listK (K := K)) (by rfl) T.f_list (by decide +kernel) (pa_cons (pv 1) pa_nil)))
        (pss_cons (ps_set (i := 3) nd rfl (Or.inl rfl) (pe_lst pa_nil))
        (pss_cons (ps_while (passes_of rfl) (pt_cmpR op_gt (pe_callB (lenK (K := K)) (by rfl) T.f_len boot_len (pa_cons (pv 2) pa_nil)) pe_int (nomark _)) (pss_one (ps_expr (peBM (K := K) (pe_bm PySem.F.plainAttrs_list PySem.F.slot_list_append PySem.F.type_list_append mt_append (pv 3) (pa_cons (peBM (K := K) (pe_bm PySem.F.plainAttrs_list PySem.F.slot_list_pop PySem.F.type_list_pop mt_popAt (pv 2) (pa_cons (pe_cal c__law_pick hr (by omega) (fun σ => L2N.passAt (L2N.takes_of rfl rfl rfl rfl) σ) (pa_cons (pv 0) (pa_cons (pe_callB (lenK (K := K)) (by rfl) T.f_len boot_len (pa_cons (pv 2) pa_nil)) pa_nil))) pa_nil))) pa_nil))))))
        (pss_one (ps_ret (pv 3)))))), ?_⟩
  walk_at "st"
  refine r_listL ht (fun l H1 hl1 e1 h1 => ?_)
  walk_at "st"
  intro f H2 hf e2 h2
  walk_at "st"
  have hf0 := e1.none hf
  refine whileW (fun μ σ' H' => ∃ (left done : List V), σ' = [some (.ref p), some (.ref t), some (.ref l), some (.ref f)] ∧ But p H H' ∧ Src H' p ∧ H' l = some (.lst left) ∧ H' f = some (.lst done) ∧ (done ++ left).Perm xs ∧ μ = left.length) xs.length
    ⟨xs, [], rfl, ext_but (e1.trans e2), (hs.ext e1).ext e2, e2 _ _ h1, h2, .refl _, rfl⟩ ?_
  rintro μ σ' H' ⟨left, done, rfl, b, s', hl', hf', pm, rfl⟩
  have hlen : done.length + left.length = xs.length := by rw [← pm.length_eq, List.length_append]
  have npl : p ≠ l := src_ne hs hl1
  have npf : p ≠ f := src_ne hs hf0
  have nlf : l ≠ f := ne_of_none h1 hf
  walk_at "st"
  refine r_lenL (sqL hl') rfl ?_
  walk_at "st"
  refine ite_d (fun c => r_N ?_) (fun c => ?_)
  · walk_at "st"
    refine ⟨.inl ⟨rfl, _, sqL hf'⟩, ?_⟩
    walk_at "st"
    refine ⟨.inl ⟨rfl, _, sqL hl'⟩, ?_⟩
    walk_at "st"
    refine r_lenL (sqL hl') rfl ?_
    walk_at "st"
    refine ⟨p, _, rfl, s', c, by omega, fun r H3 r0 r1 s3 n3 => ?_⟩
    walk_at "st"
    have hr : r.toNat < left.length := by omega
    have el : left[r.toNat]? = some left[r.toNat] := by simp [hr]
    refine r_popAt (j := r.toNat) (stay n3 npl.symm hl') (by omega) (by omega) el (fun H4 h4 n4 => ?_)
    walk_at "st"
    refine r_app (stay n4 nlf.symm (stay n3 npf.symm hf')) (by omega) (fun H5 h5 n5 => ?_)
    have s5 : Src H5 p := by
      obtain ⟨x, y, z, e⟩ := s3
      exact ⟨x, y, z, stay n5 npf (stay n4 npl e)⟩
    refine ⟨_, ?_, left.eraseIdx r.toNat, done ++ [left[r.toNat]], rfl, ((b.trans (.of n3)).mut hl1 n4).mut hf0 n5, s5, stay n5 nlf h4, h5, ?_, rfl⟩
    · rw [List.length_eraseIdx, if_pos hr]
      omega
    · rw [List.append_assoc]
      exact ((eraseIdx_perm el).append_left done).trans pm
  · walk_at "st"
    have e0 : left = [] := List.eq_nil_of_length_eq_zero (by omega)
    subst e0
    rw [List.append_nil] at pm
    exact k f H' done hf0 pm s' hf' b

end
end K25
set_option maxRecDepth 100000
set_option maxHeartbeats 4000000
namespace K25
open PySem PySem.Spec PyProof.Rows L2 L3
local macro_rules | `(tactic| walk_at "s1") => `(tactic| first
  | with_reducible refine r_seq ?_
  | with_reducible refine r_asgN ?_
  | with_reducible refine r_ret ?_
  | with_reducible refine r_next ?_
  | ((with_reducible refine' r_var ?hv ?_); (case hv => exact rfl))
  | with_reducible refine r_c ?_
  | with_reducible refine r_op ?_
  | with_reducible refine r_cons ?_
  | with_reducible refine r_nil ?_
  | with_reducible refine r_plusI ?_
  | with_reducible refine r_I0 ?_
  | with_reducible refine r_test ?_
  | with_reducible refine r_bl ?_
  | with_reducible refine r_ifS ?_
  | with_reducible refine r_cb ?_
  | with_reducible refine r_callS ?_
  | with_reducible refine r_and ?_
  | with_reducible refine r_or ?_
  | with_reducible refine r_not ?_
  | with_reducible refine r_B ?_
  | ((with_reducible refine' r_aug ?hv ?_); (case hv => exact rfl))
  | with_reducible refine r_augS ?_
  | with_reducible refine r_ipI ?_
  | with_reducible refine r_asg ?_
  | with_reducible refine r_sub ?_
  | with_reducible refine r_brk ?_
  | with_reducible refine r_isN1 ?_
  | with_reducible refine r_notN1 ?_
  | with_reducible refine r_intI ?_
  | with_reducible refine r_abs ?_
  | with_reducible refine r_min ?_
  | with_reducible refine r_max ?_
  | ((with_reducible refine' r_mod ?hz ?_); (case hz => omega))
  | ((with_reducible refine' r_pow ?hz ?_); (case hz => exact ⟨by decide, by decide, by decide⟩))
  | ((with_reducible refine' r_rg1 ?hz ?_); (case hz => omega))
  | ((with_reducible refine' r_rg2 ?hz ?_); (case hz => omega))
  | ((with_reducible refine' r_newL ?hz ?_); (case hz => exact Nat.le_of_ble_eq_true rfl))
  | ((with_reducible refine' r_newT ?hz ?_); (case hz => exact Nat.le_of_ble_eq_true rfl))
  | with_reducible refine r_for ?_
  | with_reducible refine r_lc ?_
  | with_reducible refine r_iR1 ?_
  | with_reducible refine r_iR2 ?_
  | with_reducible refine r_iL ?_
  | with_reducible refine r_iT ?_
  | with_reducible refine r_gname ?_
  | with_reducible refine r_gcons ?_
  | with_reducible refine r_gnil ?_
  | with_reducible refine r_yes ?_
  | with_reducible refine r_mkO ?_
  | with_reducible refine r_cont ?_
  | with_reducible refine r_drop ?_
  | with_reducible refine r_retN ?_
  | with_reducible refine r_ifC ?_
  | with_reducible refine r_ifI ?_
  | with_reducible refine r_if ?_
  | with_reducible refine r_un ?_
  | with_reducible refine r_neg ?_
  | with_reducible refine r_andV ?_
  | with_reducible refine r_orV ?_
  | with_reducible refine r_notV ?_
  | with_reducible refine r_tup ?_
  | with_reducible refine r_lst ?_
  | with_reducible refine r_bm ?_
  | with_reducible refine r_bm0 ?_
  | with_reducible refine r_sl ?_
  | with_reducible refine r_chain ?_
  | with_reducible refine r_noPart ?_
  | with_reducible refine r_part ?_
  | with_reducible refine r_int ?_
  | ((with_reducible refine' r_sameS ?hs ?_); (case hs => exact rfl))
  | ((with_reducible refine' r_otherS ?hs ?_); (case hs => exact rfl))
  | with_reducible refine ite_t ?_
  | with_reducible refine ite_f ?_
  | with_reducible refine ite_nt ?_
  | with_reducible refine ite_nf ?_)
local macro_rules | `(tactic| walk_at "st") => `(tactic| repeat (walk_at "s1"))

section
variable {P : Program} {w : World} {K : PySem.W.Frag} {mg : Str → Option Value} {base : Heap}
theorem sc__law_same : FnScope ["answer", "due", "at", "key"] ["answer", "due"] (defScope s__law_same) := ⟨rfl, rfl, rfl, by decide +kernel, rfl, by decide +kernel, by decide +kernel⟩
theorem ok_law_same (T : Txt w K mg) : ∀ n, CalG P w K mg base (n + 2) "_law_same" ["answer", "due"] (spSame K n)
  | 0 => (calG_false T.g__law_same T.d__law_same (fun _ _ _ _ _ _ _ us hl => match us, hl with | [_, _], _ => rfl)).imp fun vs H Q E ⟨_, _, _, _, _, _, z, _⟩ => z.elim
  | n + 1 => by
    have c__law_same := ok_law_same T n
    refine calG_of T.g__law_same T.d__law_same sc__law_same (fun _ _ _ _ _ _ _ us hl => match us, hl with | [_, _], _ => rfl) (fun vs H Q E h => by obtain ⟨c, k, d, rfl, _⟩ := h; rfl) (fun cdv A outer s H vs Q E hr h => ?_)
    have nd := sc__law_same.nd
    have hu := hu64 hr
    obtain ⟨x, y, d, rfl, hx, hy, hd, k⟩ := h
    refine ⟨_, (pss_cons (ps_if (pt_val (pe_callB (isiTK (K := K)) (by rfl) T.f_isinstance (by decide +kernel) (pa_cons (pv 1) (pa_cons (pe_tup (pa_cons (pe_ty T.f_list) (pa_cons (pe_ty T.f_tuple) pa_nil))) pa_nil)))) (pss_cons (ps_if (PW.pt (pw_or (pt_not (pt_val (pe_callB (isiTK (K := K)) (by rfl) T.f_isinstance (by decide +kernel) (pa_cons (pv 0) (pa_cons (pe_tup (pa_cons (pe_ty T.f_list) (pa_cons (pe_ty T.f_tuple) pa_nil))) pa_nil))))) (pw_or (pt_cmpR (otherK (K := K) hu) (pe_callB (isiK (K := K)) (by rfl) T.f_isinstance (by decide +kernel) (pa_cons (pv 0) (pa_cons (pe_ty T.f_list) pa_nil))) (pe_callB (isiK (K := K)) (by rfl) T.f_isinstance (by decide +kernel) (pa_cons (pv 1) (pa_cons (pe_ty T.f_list) pa_nil))) (nomark _)) (pw_or1 (pt_cmpR (otherK (K := K) hu) (pe_callB (lenK (K := K)) (by rfl) T.f_len boot_len (pa_cons (pv 0) pa_nil)) (pe_callB (lenK (K := K)) (by rfl) T.f_len boot_len (pa_cons (pv 1) pa_nil)) (nomark _)))))) (pss_one (ps_ret pe_bl)) pss_nil)
        (pss_one (ps_ret (pe_callB (allK (K := K) rfl) (by rfl) T.f_all (by decide +kernel) (pa_cons (pe_lc (own := [("at", 2)]) rfl nd (pi_range1 (by rfl) T.f_range (pa_cons (pe_callB (lenK (K := K)) (by rfl) T.f_len boot_len (pa_cons (pv 1) pa_nil)) pa_nil)) (blkOk_by (N := ["answer", "due", "at", "key"]) (sc := defScope s__law_same) (by decide +kernel)) (fun _ _ _ _ _ => (pg_name (i := 2) nd rfl (Or.inl rfl))) (fun _ _ _ _ _ => pts_nil) (fun _ _ _ _ _ => (pe_cal c__law_same hr (by omega) passN (pa_cons (pe_ix (ixK (K := K)) (pv 0) (pv 2) (fun _ _ => rfl)) (pa_cons (pe_ix (ixK (K := K)) (pv 1) (pv 2) (fun _ _ => rfl)) pa_nil))))) pa_nil))))) pss_nil)
        (pss_cons (ps_if (pt_val (pe_callB (isiK (K := K)) (by rfl) T.f_isinstance (by decide +kernel) (pa_cons (pv 1) (pa_cons (pe_ty T.f_dict) pa_nil)))) pss_never pss_nil)
        (pss_cons (ps_if (PW.pt (pw_or (pt_cmpR op_isN1 (pv 1) pe_non (nomark _)) (pw_or1 (pt_cmpR op_isN1 (pv 0) pe_non (nomark _))))) (pss_one (ps_ret (pe_and (pe_cmpR op_isN1 (pv 1) pe_non (nomark _)) (pe_one (pe_cmpR op_isN1 (pv 0) pe_non (nomark _)))))) pss_nil)
        (pss_cons (ps_if (PW.pt (pw_or (pt_cmpR (otherK (K := K) hu) (pe_callB (isiK (K := K)) (by rfl) T.f_isinstance (by decide +kernel) (pa_cons (pv 1) (pa_cons (pe_ty T.f_bool) pa_nil))) (pe_callB (isiK (K := K)) (by rfl) T.f_isinstance (by decide +kernel) (pa_cons (pv 0) (pa_cons (pe_ty T.f_bool) pa_nil))) (nomark _)) (pw_or1 (pt_cmpR (otherK (K := K) hu) (pe_callB (isiK (K := K)) (by rfl) T.f_isinstance (by decide +kernel) (pa_cons (pv 1) (pa_cons (pe_ty T.f_str) pa_nil))) (pe_callB (isiK (K := K)) (by rfl) T.f_isinstance (by decide +kernel) (pa_cons (pv 0) (pa_cons (pe_ty T.f_str) pa_nil))) (nomark _))))) (pss_one (ps_ret pe_bl)) pss_nil)
        (pss_one (ps_ret (pe_and (pe_callB (isiTK (K := K)) (by rfl) T.f_isinstance (by decide +kernel) (pa_cons (pv 0) (pa_cons (pe_tup (pa_cons (pe_ty T.f_bool) (pa_cons (pe_ty T.f_int) (pa_cons (pe_ty T.f_str) pa_nil)))) pa_nil))) (pe_one (pe_cmpR (sameK (K := K) hu) (pv 0) (pv 1) (nomark _)))))))))), ?_⟩
    walk_at "st"
    intro t H1 ht e1 h1
    walk_at "st"
    refine r_isi2 (e1.dp d hy) h1 (by simp) (by simp) ?_
    walk_at "st"
    cases c : (isB (tyD d) "list" || isB (tyD d) "tuple") with
    | true =>
      walk_at "st"
      intro t2 H2 ht2 e2 h2
      have e12 := e1.trans e2
      walk_at "st"
      refine r_isi2 (e12.dp d hx) h2 (by simp) (by simp) ?_
      rw [c]
      walk_at "st"
      refine r_isi (b := "list") (e12.dp d hx) (by simp) ?_
      walk_at "st"
      refine r_isi (b := "list") (e12.dp d hy) (by simp) ?_
      walk_at "st"
      refine ite_n (fun z => absurd rfl z) (fun _ => ?_)
      obtain ⟨a, xs, rfl, ha, hxs⟩ := dp_seq (e12.dp d hx) c
      obtain ⟨b, ys, rfl, hb, hys⟩ := dp_seq (e12.dp d hy) c
      have lx := dps_len hxs
      have ly := dps_len hys
      walk_at "st"
      refine r_lenA ha (by rw [lx]) ?_
      walk_at "st"
      refine r_lenA hb (by rw [ly]) ?_
      walk_at "st"
      refine ite_n (fun z => absurd rfl z) (fun _ => ?_)
      walk_at "st"
      refine r_lenA hb (by rw [ly]) ?_
      have hsz := hd.1
      walk_at "st"
      intro Dl hD
      rw [Int.toNat_natCast]
      refine lcW_range (LcP H2 Dl fun _ => .bl true) (.start hD) ?_ ?_
      · intro i H3 hi p
        have hsz2 : i < 16777216 := by omega
        obtain ⟨x, ex, hx3⟩ := dps_get (i := i) hxs (List.getElem?_eq_getElem hi)
        obtain ⟨y, ey, hy3⟩ := dps_get (i := i) hys (List.getElem?_eq_getElem hi)
        walk_at "st"
        refine r_lcW rfl ?_
        walk_at "st"
        refine r_atA (p.e.sq ha) (by rw [Int.zero_add]; exact atI_nat ex) ?_
        walk_at "st"
        refine r_atA (p.e.sq hb) (by rw [Int.zero_add]; exact atI_nat ey) ?_
        walk_at "st"
        have hm : (itemsD d)[i] ∈ itemsD d := List.getElem_mem hi
        exact ⟨x, y, _, rfl, p.e.dp _ hx3, p.e.dp _ hy3, hd.2 _ hm, fun H4 e4 => p.pushB hD hsz2 e4 rfl⟩
      · intro H3 p
        have hd := p.d
        rw [map_bl] at hd
        walk_at "st"
        refine r_all (sqL hd) ?_
        rw [bools_all]
        exact k H3 (e12.trans p.e)
    | false =>
      walk_at "st"
      refine r_isi (e1.dp d hy) (by simp) ?_
      rw [dp_nodict hy]
      walk_at "st"
      have exy := dp_det hx hy c
      subst exy
      rcases dp_flat hx c with ⟨rfl, rfl⟩ | ⟨cb, nn, sc⟩
      · walk_at "st"
        refine ite_d (fun _ => ?_) (fun z => absurd rfl z)
        walk_at "st"
        refine ite_d (fun _ => ?_) (fun z => absurd rfl z)
        walk_at "st"
        exact k H1 e1
      · refine ite_d (fun z => absurd z nn) (fun _ => ?_)
        walk_at "st"
        refine ite_d (fun z => absurd z nn) (fun _ => ?_)
        walk_at "st"
        refine r_isi (e1.dp d hy) (by simp) ?_
        walk_at "st"
        refine r_isi (e1.dp d hy) (by simp) ?_
        walk_at "st"
        refine ite_n (fun z => absurd rfl z) (fun _ => ?_)
        walk_at "st"
        refine r_isi (e1.dp d hy) (by simp) ?_
        walk_at "st"
        refine r_isi (e1.dp d hy) (by simp) ?_
        walk_at "st"
        refine ite_n (fun z => absurd rfl z) (fun _ => ?_)
        walk_at "st"
        intro t2 H2 ht2 e2 h2
        walk_at "st"
        refine r_isi3 ((e1.trans e2).dp d hy) h2 (by simp) (by simp) (by simp) ?_
        rw [cb]
        walk_at "st"
        refine r_sameS sc ?_
        have e : decide (x = x) = true := decide_eq_true rfl
        rw [e]
        exact k H2 (e1.trans e2)

theorem scf_TooMany : FnScope ["error", "found"] ["error"] (defScope s__law_fault) := ⟨rfl, rfl, rfl, by decide +kernel, rfl, by decide +kernel, by decide +kernel⟩
theorem fault_TooMany (T : Txt w K mg) {fd : FuncData} (F : FunD K "_law_fault" "_law_fault" (defArgs s__law_fault) (defBody s__law_fault) (defScope s__law_fault) [] [] (He.ga K "_law_fault") fd) : FnP P w K mg base (L2N.CX P w) 1 (He.ga K "_law_fault") fd ["error"] (onP (spFlt K "TooMany" (["what"] : List Str))) := by
  refine fnP_of F scf_TooMany (fun p vs H Q E h => by obtain ⟨dd, kv, us, rfl, _⟩ := h; rfl) (fun p cdv A outer s H vs Q E hot hr h => ?_)
  have nd := scf_TooMany.nd
  obtain ⟨dd, kv, us, rfl, hz, hd, hus, k⟩ := h
  have hf : ∃ ws, p.2.data = .fields ws := by obtain ⟨ws, e, _⟩ := hot.2; exact ⟨ws, e⟩
  obtain ⟨u0, rfl, hu0⟩ : ∃ u0, us = [u0] ∧ kv.lookup ("what" : Str) = some u0 := by
    cases us with
    | nil => simp at hus
    | cons u r =>
      cases r with
      | nil => exact ⟨u, rfl, by simpa using hus⟩
      | cons v r => simp at hus
  have hp : p ∈ (L2H.cxH (L2N.CX P w) P w K mg base ["error", "found"] "_law_fault" (defScope s__law_fault) (He.ga K "_law_fault") cdv A outer s H E p).pn := List.mem_singleton.mpr rfl
  have hu : ((L2H.cxH (L2N.CX P w) P w K mg base ["error", "found"] "_law_fault" (defScope s__law_fault) (He.ga K "_law_fault") cdv A outer s H E p).A).units + 64 < cLine := by have := hr.un; show (A.deeper _).units + 64 < cLine; omega
  have hx : ("TooMany" : Str) ∈ errs := by simp [errs]
  refine ⟨_, (pss_cons (ps_set (i := 1) nd rfl (Or.inl rfl) (pe_lst pa_nil))
        (pss_cons (ps_if (pt_val (pe_callB (call_isP T.e_TooMany.e hz hf hp) (by rfl) T.f_isinstance (by decide +kernel) (pa_cons (pv 0) (pa_cons (pe_gl T.g_TooMany) pa_nil)))) (pss_one (ps_expr (peBM (K := K) (pe_bm PySem.F.plainAttrs_list PySem.F.slot_list_append PySem.F.type_list_append mt_append (pv 1) (pa_cons (pe_tup (pa_cons pe_str (pa_cons (pe_xp T.e_TooMany.f (T.e_TooMany.no _ (by simp)) hz hf hp (pv 0)) pa_nil))) pa_nil))))) pss_nil)
        (pss_cons (ps_if (pt_val (pe_callB (call_isP T.e_TooMany.e hz hf hp) (by rfl) T.f_isinstance (by decide +kernel) (pa_cons (pv 0) (pa_cons (pe_gl T.g_BadText) pa_nil)))) pss_never pss_nil)
        (pss_cons (ps_if (pt_val (pe_callB (call_isP T.e_TooMany.e hz hf hp) (by rfl) T.f_isinstance (by decide +kernel) (pa_cons (pv 0) (pa_cons (pe_gl T.g_BadFormat) pa_nil)))) pss_never pss_nil)
        (pss_cons (ps_if (pt_val (pe_callB (call_isP T.e_TooMany.e hz hf hp) (by rfl) T.f_isinstance (by decide +kernel) (pa_cons (pv 0) (pa_cons (pe_gl T.g_BadValue) pa_nil)))) pss_never pss_nil)
        (pss_cons (ps_if (pt_val (pe_callB (call_isP T.e_TooMany.e hz hf hp) (by rfl) T.f_isinstance (by decide +kernel) (pa_cons (pv 0) (pa_cons (pe_gl T.g_BadShape) pa_nil)))) pss_never pss_nil)
        (pss_cons (ps_if (pt_val (pe_callB (call_isP T.e_TooMany.e hz hf hp) (by rfl) T.f_isinstance (by decide +kernel) (pa_cons (pv 0) (pa_cons (pe_gl T.g_BadRow) pa_nil)))) pss_never pss_nil)
        (pss_cons (ps_if (pt_val (pe_callB (call_isP T.e_TooMany.e hz hf hp) (by rfl) T.f_isinstance (by decide +kernel) (pa_cons (pv 0) (pa_cons (pe_gl T.g_BadSet) pa_nil)))) pss_never pss_nil)
        (pss_cons (ps_if (pt_val (pe_callB (call_isP T.e_TooMany.e hz hf hp) (by rfl) T.f_isinstance (by decide +kernel) (pa_cons (pv 0) (pa_cons (pe_gl T.g_BadReader) pa_nil)))) pss_never pss_nil)
        (pss_cons (ps_if (pt_val (pe_callB (call_isP T.e_TooMany.e hz hf hp) (by rfl) T.f_isinstance (by decide +kernel) (pa_cons (pv 0) (pa_cons (pe_gl T.g_BadLayout) pa_nil)))) pss_never pss_nil)
        (pss_cons (ps_if (pt_val (pe_callB (call_isP T.e_TooMany.e hz hf hp) (by rfl) T.f_isinstance (by decide +kernel) (pa_cons (pv 0) (pa_cons (pe_gl T.g_BadCheck) pa_nil)))) pss_never pss_nil)
        (pss_cons (ps_if (pt_val (pe_callB (call_isP T.e_TooMany.e hz hf hp) (by rfl) T.f_isinstance (by decide +kernel) (pa_cons (pv 0) (pa_cons (pe_gl T.g_BadCode) pa_nil)))) pss_never pss_nil)
        (pss_cons (ps_if (pt_val (pe_callB (call_isP T.e_TooMany.e hz hf hp) (by rfl) T.f_isinstance (by decide +kernel) (pa_cons (pv 0) (pa_cons (pe_gl T.g_BadFeed) pa_nil)))) pss_never pss_nil)
        (pss_cons (ps_if (pt_val (pe_callB (call_isP T.e_TooMany.e hz hf hp) (by rfl) T.f_isinstance (by decide +kernel) (pa_cons (pv 0) (pa_cons (pe_gl T.g_BadEdit) pa_nil)))) pss_never pss_nil)
        (pss_cons (ps_if (pt_val (pe_callB (call_isP T.e_TooMany.e hz hf hp) (by rfl) T.f_isinstance (by decide +kernel) (pa_cons (pv 0) (pa_cons (pe_gl T.g_BadPatch) pa_nil)))) pss_never pss_nil)
        (pss_cons (ps_if (pt_val (pe_callB (call_isP T.e_TooMany.e hz hf hp) (by rfl) T.f_isinstance (by decide +kernel) (pa_cons (pv 0) (pa_cons (pe_gl T.g_BadPaper) pa_nil)))) pss_never pss_nil)
        (pss_cons (ps_if (pt_val (pe_callB (call_isP T.e_TooMany.e hz hf hp) (by rfl) T.f_isinstance (by decide +kernel) (pa_cons (pv 0) (pa_cons (pe_gl T.g_BadDeed) pa_nil)))) pss_never pss_nil)
        (pss_cons (ps_if (PW.pt (pw_or (pt_not (pt_val (pe_callB (call_isP T.e_TooMany.e hz hf hp) (by rfl) T.f_isinstance (by decide +kernel) (pa_cons (pv 0) (pa_cons (pe_gl T.g_OutsideError) pa_nil))))) (pw_or (pt_not (pt_val (pe_callB (call_isP T.e_TooMany.e hz hf hp) (by rfl) T.f_isinstance (by decide +kernel) (pa_cons (pv 0) (pa_cons (pe_ty T.f_ValueError) pa_nil))))) (pw_or1 (pt_cmpR (otherK (K := K) hu) (pe_callB (lenK (K := K)) (by rfl) T.f_len boot_len (pa_cons (pv 1) pa_nil)) pe_int (nomark _)))))) (pss_one (ps_ret (pe_tup (pa_cons pe_str pa_nil)))) pss_nil)
        (pss_one (ps_ret (pe_ix (ixK (K := K)) (pv 1) pe_int (fun _ _ => rfl)))))))))))))))))))))), ?_⟩
  walk_at "st"
  intro l H1 hl e1 h1
  have hd1 := e1 _ _ hd
  walk_at "st"
  refine r_isP hd1 (T.kits.yes hx) ?_
  walk_at "st"
  refine ⟨.inl ⟨rfl, _, sqL h1⟩, ?_⟩
  walk_at "st"
  refine r_xp ?_
  walk_at "st"
  refine ⟨rfl, _, _, hd1, hu0, ?_⟩
  walk_at "st"
  intro q H2 hq e2 h2
  walk_at "st"
  refine r_app (e2 _ _ h1) (by decide) (fun H3 h3 m3 => ?_)
  walk_at "st"
  have nl : dd ≠ l := ne_of_none hd hl
  have nq : q ≠ l := (ne_of_none h1 hq).symm
  have hd3 := mut_at m3 nl (e2 _ _ hd1)
  have hq3 := mut_at m3 nq h2
  have e3 : Ext H H3 := mut_ext (e1.trans e2) hl m3
  walk_at "st"
  refine r_isP hd3 (T.kits.no hx (by simp [errs]) (by decide)) ?_
  walk_at "st"
  refine r_isP hd3 (T.kits.no hx (by simp [errs]) (by decide)) ?_
  walk_at "st"
  refine r_isP hd3 (T.kits.no hx (by simp [errs]) (by decide)) ?_
  walk_at "st"
  refine r_isP hd3 (T.kits.no hx (by simp [errs]) (by decide)) ?_
  walk_at "st"
  refine r_isP hd3 (T.kits.no hx (by simp [errs]) (by decide)) ?_
  walk_at "st"
  refine r_isP hd3 (T.kits.no hx (by simp [errs]) (by decide)) ?_
  walk_at "st"
  refine r_isP hd3 (T.kits.no hx (by simp [errs]) (by decide)) ?_
  walk_at "st"
  refine r_isP hd3 (T.kits.no hx (by simp [errs]) (by decide)) ?_
  walk_at "st"
  refine r_isP hd3 (T.kits.no hx (by simp [errs]) (by decide)) ?_
  walk_at "st"
  refine r_isP hd3 (T.kits.no hx (by simp [errs]) (by decide)) ?_
  walk_at "st"
  refine r_isP hd3 (T.kits.no hx (by simp [errs]) (by decide)) ?_
  walk_at "st"
  refine r_isP hd3 (T.kits.no hx (by simp [errs]) (by decide)) ?_
  walk_at "st"
  refine r_isP hd3 (T.kits.no hx (by simp [errs]) (by decide)) ?_
  walk_at "st"
  refine r_isP hd3 (T.kits.no hx (by simp [errs]) (by decide)) ?_
  walk_at "st"
  refine r_isP hd3 (T.kits.no hx (by simp [errs]) (by decide)) ?_
  walk_at "st"
  refine r_isP hd3 (T.kits.kitO _ hx) ?_
  walk_at "st"
  refine r_isPV hd3 (T.kits.kitV _ hx) ?_
  walk_at "st"
  refine r_lenL (sqL h3) rfl ?_
  walk_at "st"
  refine ite_n (fun z => absurd rfl z) (fun _ => ?_)
  walk_at "st"
  refine r_atL (sqL h3) (atI_nat (j := 0) rfl) ?_
  exact k q H3 (e1.none hq) e3 hq3
theorem scf_BadLayout : FnScope ["error", "found"] ["error"] (defScope s__law_fault) := ⟨rfl, rfl, rfl, by decide +kernel, rfl, by decide +kernel, by decide +kernel⟩
theorem fault_BadLayout (T : Txt w K mg) {fd : FuncData} (F : FunD K "_law_fault" "_law_fault" (defArgs s__law_fault) (defBody s__law_fault) (defScope s__law_fault) [] [] (He.ga K "_law_fault") fd) : FnP P w K mg base (L2N.CX P w) 1 (He.ga K "_law_fault") fd ["error"] (onP (spFlt K "BadLayout" (["what"] : List Str))) := by
  refine fnP_of F scf_BadLayout (fun p vs H Q E h => by obtain ⟨dd, kv, us, rfl, _⟩ := h; rfl) (fun p cdv A outer s H vs Q E hot hr h => ?_)
  have nd := scf_BadLayout.nd
  obtain ⟨dd, kv, us, rfl, hz, hd, hus, k⟩ := h
  have hf : ∃ ws, p.2.data = .fields ws := by obtain ⟨ws, e, _⟩ := hot.2; exact ⟨ws, e⟩
  obtain ⟨u0, rfl, hu0⟩ : ∃ u0, us = [u0] ∧ kv.lookup ("what" : Str) = some u0 := by
    cases us with
    | nil => simp at hus
    | cons u r =>
      cases r with
      | nil => exact ⟨u, rfl, by simpa using hus⟩
      | cons v r => simp at hus
  have hp : p ∈ (L2H.cxH (L2N.CX P w) P w K mg base ["error", "found"] "_law_fault" (defScope s__law_fault) (He.ga K "_law_fault") cdv A outer s H E p).pn := List.mem_singleton.mpr rfl
  have hu : ((L2H.cxH (L2N.CX P w) P w K mg base ["error", "found"] "_law_fault" (defScope s__law_fault) (He.ga K "_law_fault") cdv A outer s H E p).A).units + 64 < cLine := by have := hr.un; show (A.deeper _).units + 64 < cLine; omega
  have hx : ("BadLayout" : Str) ∈ errs := by simp [errs]
  refine ⟨_, (pss_cons (ps_set (i := 1) nd rfl (Or.inl rfl) (pe_lst pa_nil))
        (pss_cons (ps_if (pt_val (pe_callB (call_isP T.e_BadLayout.e hz hf hp) (by rfl) T.f_isinstance (by decide +kernel) (pa_cons (pv 0) (pa_cons (pe_gl T.g_TooMany) pa_nil)))) pss_never pss_nil)
        (pss_cons (ps_if (pt_val (pe_callB (call_isP T.e_BadLayout.e hz hf hp) (by rfl) T.f_isinstance (by decide +kernel) (pa_cons (pv 0) (pa_cons (pe_gl T.g_BadText) pa_nil)))) pss_never pss_nil)
        (pss_cons (ps_if (pt_val (pe_callB (call_isP T.e_BadLayout.e hz hf hp) (by rfl) T.f_isinstance (by decide +kernel) (pa_cons (pv 0) (pa_cons (pe_gl T.g_BadFormat) pa_nil)))) pss_never pss_nil)
        (pss_cons (ps_if (pt_val (pe_callB (call_isP T.e_BadLayout.e hz hf hp) (by rfl) T.f_isinstance (by decide +kernel) (pa_cons (pv 0) (pa_cons (pe_gl T.g_BadValue) pa_nil)))) pss_never pss_nil)
        (pss_cons (ps_if (pt_val (pe_callB (call_isP T.e_BadLayout.e hz hf hp) (by rfl) T.f_isinstance (by decide +kernel) (pa_cons (pv 0) (pa_cons (pe_gl T.g_BadShape) pa_nil)))) pss_never pss_nil)
        (pss_cons (ps_if (pt_val (pe_callB (call_isP T.e_BadLayout.e hz hf hp) (by rfl) T.f_isinstance (by decide +kernel) (pa_cons (pv 0) (pa_cons (pe_gl T.g_BadRow) pa_nil)))) pss_never pss_nil)
        (pss_cons (ps_if (pt_val (pe_callB (call_isP T.e_BadLayout.e hz hf hp) (by rfl) T.f_isinstance (by decide +kernel) (pa_cons (pv 0) (pa_cons (pe_gl T.g_BadSet) pa_nil)))) pss_never pss_nil)
        (pss_cons (ps_if (pt_val (pe_callB (call_isP T.e_BadLayout.e hz hf hp) (by rfl) T.f_isinstance (by decide +kernel) (pa_cons (pv 0) (pa_cons (pe_gl T.g_BadReader) pa_nil)))) pss_never pss_nil)
        (pss_cons (ps_if (pt_val (pe_callB (call_isP T.e_BadLayout.e hz hf hp) (by rfl) T.f_isinstance (by decide +kernel) (pa_cons (pv 0) (pa_cons (pe_gl T.g_BadLayout) pa_nil)))) (pss_one (ps_expr (peBM (K := K) (pe_bm PySem.F.plainAttrs_list PySem.F.slot_list_append PySem.F.type_list_append mt_append (pv 1) (pa_cons (pe_tup (pa_cons pe_str (pa_cons (pe_xp T.e_BadLayout.f (T.e_BadLayout.no _ (by simp)) hz hf hp (pv 0)) pa_nil))) pa_nil))))) pss_nil)
        (pss_cons (ps_if (pt_val (pe_callB (call_isP T.e_BadLayout.e hz hf hp) (by rfl) T.f_isinstance (by decide +kernel) (pa_cons (pv 0) (pa_cons (pe_gl T.g_BadCheck) pa_nil)))) pss_never pss_nil)
        (pss_cons (ps_if (pt_val (pe_callB (call_isP T.e_BadLayout.e hz hf hp) (by rfl) T.f_isinstance (by decide +kernel) (pa_cons (pv 0) (pa_cons (pe_gl T.g_BadCode) pa_nil)))) pss_never pss_nil)
        (pss_cons (ps_if (pt_val (pe_callB (call_isP T.e_BadLayout.e hz hf hp) (by rfl) T.f_isinstance (by decide +kernel) (pa_cons (pv 0) (pa_cons (pe_gl T.g_BadFeed) pa_nil)))) pss_never pss_nil)
        (pss_cons (ps_if (pt_val (pe_callB (call_isP T.e_BadLayout.e hz hf hp) (by rfl) T.f_isinstance (by decide +kernel) (pa_cons (pv 0) (pa_cons (pe_gl T.g_BadEdit) pa_nil)))) pss_never pss_nil)
        (pss_cons (ps_if (pt_val (pe_callB (call_isP T.e_BadLayout.e hz hf hp) (by rfl) T.f_isinstance (by decide +kernel) (pa_cons (pv 0) (pa_cons (pe_gl T.g_BadPatch) pa_nil)))) pss_never pss_nil)
        (pss_cons (ps_if (pt_val (pe_callB (call_isP T.e_BadLayout.e hz hf hp) (by rfl) T.f_isinstance (by decide +kernel) (pa_cons (pv 0) (pa_cons (pe_gl T.g_BadPaper) pa_nil)))) pss_never pss_nil)
        (pss_cons (ps_if (pt_val (pe_callB (call_isP T.e_BadLayout.e hz hf hp) (by rfl) T.f_isinstance (by decide +kernel) (pa_cons (pv 0) (pa_cons (pe_gl T.g_BadDeed) pa_nil)))) pss_never pss_nil)
        (pss_cons (ps_if (PW.pt (pw_or (pt_not (pt_val (pe_callB (call_isP T.e_BadLayout.e hz hf hp) (by rfl) T.f_isinstance (by decide +kernel) (pa_cons (pv 0) (pa_cons (pe_gl T.g_OutsideError) pa_nil))))) (pw_or (pt_not (pt_val (pe_callB (call_isP T.e_BadLayout.e hz hf hp) (by rfl) T.f_isinstance (by decide +kernel) (pa_cons (pv 0) (pa_cons (pe_ty T.f_ValueError) pa_nil))))) (pw_or1 (pt_cmpR (otherK (K := K) hu) (pe_callB (lenK (K := K)) (by rfl) T.f_len boot_len (pa_cons (pv 1) pa_nil)) pe_int (nomark _)))))) (pss_one (ps_ret (pe_tup (pa_cons pe_str pa_nil)))) pss_nil)
        (pss_one (ps_ret (pe_ix (ixK (K := K)) (pv 1) pe_int (fun _ _ => rfl)))))))))))))))))))))), ?_⟩
  walk_at "st"
  intro l H1 hl e1 h1
  have hd1 := e1 _ _ hd
  walk_at "st"
  refine r_isP hd1 (T.kits.no hx (by simp [errs]) (by decide)) ?_
  walk_at "st"
  refine r_isP hd1 (T.kits.no hx (by simp [errs]) (by decide)) ?_
  walk_at "st"
  refine r_isP hd1 (T.kits.no hx (by simp [errs]) (by decide)) ?_
  walk_at "st"
  refine r_isP hd1 (T.kits.no hx (by simp [errs]) (by decide)) ?_
  walk_at "st"
  refine r_isP hd1 (T.kits.no hx (by simp [errs]) (by decide)) ?_
  walk_at "st"
  refine r_isP hd1 (T.kits.no hx (by simp [errs]) (by decide)) ?_
  walk_at "st"
  refine r_isP hd1 (T.kits.no hx (by simp [errs]) (by decide)) ?_
  walk_at "st"
  refine r_isP hd1 (T.kits.no hx (by simp [errs]) (by decide)) ?_
  walk_at "st"
  refine r_isP hd1 (T.kits.yes hx) ?_
  walk_at "st"
  refine ⟨.inl ⟨rfl, _, sqL h1⟩, ?_⟩
  walk_at "st"
  refine r_xp ?_
  walk_at "st"
  refine ⟨rfl, _, _, hd1, hu0, ?_⟩
  walk_at "st"
  intro q H2 hq e2 h2
  walk_at "st"
  refine r_app (e2 _ _ h1) (by decide) (fun H3 h3 m3 => ?_)
  walk_at "st"
  have nl : dd ≠ l := ne_of_none hd hl
  have nq : q ≠ l := (ne_of_none h1 hq).symm
  have hd3 := mut_at m3 nl (e2 _ _ hd1)
  have hq3 := mut_at m3 nq h2
  have e3 : Ext H H3 := mut_ext (e1.trans e2) hl m3
  walk_at "st"
  refine r_isP hd3 (T.kits.no hx (by simp [errs]) (by decide)) ?_
  walk_at "st"
  refine r_isP hd3 (T.kits.no hx (by simp [errs]) (by decide)) ?_
  walk_at "st"
  refine r_isP hd3 (T.kits.no hx (by simp [errs]) (by decide)) ?_
  walk_at "st"
  refine r_isP hd3 (T.kits.no hx (by simp [errs]) (by decide)) ?_
  walk_at "st"
  refine r_isP hd3 (T.kits.no hx (by simp [errs]) (by decide)) ?_
  walk_at "st"
  refine r_isP hd3 (T.kits.no hx (by simp [errs]) (by decide)) ?_
  walk_at "st"
  refine r_isP hd3 (T.kits.no hx (by simp [errs]) (by decide)) ?_
  walk_at "st"
  refine r_isP hd3 (T.kits.kitO _ hx) ?_
  walk_at "st"
  refine r_isPV hd3 (T.kits.kitV _ hx) ?_
  walk_at "st"
  refine r_lenL (sqL h3) rfl ?_
  walk_at "st"
  refine ite_n (fun z => absurd rfl z) (fun _ => ?_)
  walk_at "st"
  refine r_atL (sqL h3) (atI_nat (j := 0) rfl) ?_
  exact k q H3 (e1.none hq) e3 hq3
def faultL : List (Str × List Str) := [("TooMany", ["what"]), ("BadLayout", ["what"])]
theorem ok_fault (T : Txt w K mg) : FaultG P w K mg base faultL := by
  obtain ⟨fd, F⟩ := T.d__law_fault
  refine ⟨T.g__law_fault, F.kp, fd, fnP_any (fun x hx => ?_), F.bindsN fun _ _ _ _ _ _ us hl => match us, hl with | [_], _ => rfl⟩
  simp only [faultL, List.mem_cons, List.not_mem_nil, or_false] at hx
  rcases hx with rfl | rfl
  · exact fault_TooMany T F
  · exact fault_BadLayout T F
end
end K25
set_option maxRecDepth 100000
set_option maxHeartbeats 4000000
namespace K25
open PySem PySem.Spec PyProof.Rows L2 L3
local macro_rules | `(tactic| walk_at "s1") => `(tactic| first
  | with_reducible refine r_seq ?_
  | with_reducible refine r_asgN ?_
  | with_reducible refine r_ret ?_
  | with_reducible refine r_next ?_
  | ((with_reducible refine' r_var ?hv ?_); (case hv => exact rfl))
  | with_reducible refine r_c ?_
  | with_reducible refine r_op ?_
  | with_reducible refine r_cons ?_
  | with_reducible refine r_nil ?_
  | with_reducible refine r_plusI ?_
  | with_reducible refine r_I0 ?_
  | with_reducible refine r_test ?_
  | with_reducible refine r_bl ?_
  | with_reducible refine r_ifS ?_
  | with_reducible refine r_cb ?_
  | with_reducible refine r_callS ?_
  | with_reducible refine r_and ?_
  | with_reducible refine r_or ?_
  | with_reducible refine r_not ?_
  | with_reducible refine r_B ?_
  | ((with_reducible refine' r_aug ?hv ?_); (case hv => exact rfl))
  | with_reducible refine r_augS ?_
  | with_reducible refine r_ipI ?_
  | with_reducible refine r_asg ?_
  | with_reducible refine r_sub ?_
  | with_reducible refine r_brk ?_
  | with_reducible refine r_isN1 ?_
  | with_reducible refine r_notN1 ?_
  | with_reducible refine r_intI ?_
  | with_reducible refine r_abs ?_
  | with_reducible refine r_min ?_
  | with_reducible refine r_max ?_
  | ((with_reducible refine' r_mod ?hz ?_); (case hz => omega))
  | ((with_reducible refine' r_pow ?hz ?_); (case hz => exact ⟨by decide, by decide, by decide⟩))
  | ((with_reducible refine' r_rg1 ?hz ?_); (case hz => omega))
  | ((with_reducible refine' r_rg2 ?hz ?_); (case hz => omega))
  | ((with_reducible refine' r_newL ?hz ?_); (case hz => exact Nat.le_of_ble_eq_true rfl))
  | ((with_reducible refine' r_newT ?hz ?_); (case hz => exact Nat.le_of_ble_eq_true rfl))
  | with_reducible refine r_for ?_
  | with_reducible refine r_lc ?_
  | with_reducible refine r_iR1 ?_
  | with_reducible refine r_iR2 ?_
  | with_reducible refine r_iL ?_
  | with_reducible refine r_iT ?_
  | with_reducible refine r_gname ?_
  | with_reducible refine r_gcons ?_
  | with_reducible refine r_gnil ?_
  | with_reducible refine r_yes ?_
  | with_reducible refine r_mkO ?_
  | with_reducible refine r_cont ?_
  | with_reducible refine r_drop ?_
  | with_reducible refine r_retN ?_
  | with_reducible refine r_ifC ?_
  | with_reducible refine r_ifI ?_
  | with_reducible refine r_if ?_
  | with_reducible refine r_un ?_
  | with_reducible refine r_neg ?_
  | with_reducible refine r_andV ?_
  | with_reducible refine r_orV ?_
  | with_reducible refine r_notV ?_
  | with_reducible refine r_tup ?_
  | with_reducible refine r_lst ?_
  | with_reducible refine r_bm ?_
  | with_reducible refine r_bm0 ?_
  | with_reducible refine r_sl ?_
  | with_reducible refine r_chain ?_
  | with_reducible refine r_noPart ?_
  | with_reducible refine r_part ?_
  | with_reducible refine r_int ?_
  | ((with_reducible refine' r_sameS ?hs ?_); (case hs => exact rfl))
  | ((with_reducible refine' r_otherS ?hs ?_); (case hs => exact rfl))
  | with_reducible refine ite_t ?_
  | with_reducible refine ite_f ?_
  | with_reducible refine ite_nt ?_
  | with_reducible refine ite_nf ?_)
local macro_rules | `(tactic| walk_at "st") => `(tactic| repeat (walk_at "s1"))

section
variable {P : Program} {w : World} {K : PySem.W.Frag} {mg : Str → Option Value} {base : Heap}
/-! ### the law's own count -/
def spLReach : Sp := fun vs H Q _ => ∃ (d r : Nat), vs = [.int d, .int r] ∧ d ≤ 5000 ∧ r ≤ 5000 ∧ Q (.int (Del.D d r : Nat)) H
theorem tmz (d r s : Nat) (hs : s ≤ min d r) : ((Del.tm d r s : Nat) : Int) * 2 * ((d : Int) - s) * ((r : Int) - s) / (((s : Int) + 1) * ((s : Int) + 1)) = ((Del.tm d r (s + 1) : Nat) : Int) := by
  have h := Del.tm_next d r s
  have e1 : ((d : Int) - s) = ((d - s : Nat) : Int) := by omega
  have e2 : ((r : Int) - s) = ((r - s : Nat) : Int) := by omega
  have e3 : ((s : Int) + 1) * ((s : Int) + 1) = (((s + 1) * (s + 1) : Nat) : Int) := by push_cast; rfl
  have e4 : ((Del.tm d r s : Nat) : Int) * 2 * ((d - s : Nat) : Int) * ((r - s : Nat) : Int) = ((Del.tm d r s * 2 * (d - s) * (r - s) : Nat) : Int) := by push_cast; rfl
  rw [e1, e2, e3, e4, h, ← Int.natCast_ediv, Nat.mul_div_cancel _ (Nat.mul_pos (by omega) (by omega))]
theorem sc__law_reach : FnScope ["d", "r", "found", "term", "s"] ["d", "r"] (defScope s__law_reach) := ⟨rfl, rfl, rfl, by decide +kernel, rfl, by decide +kernel, by decide +kernel⟩
theorem ok_law_reach (T : Txt w K mg) : CalG P w K mg base 2 "_law_reach" ["d", "r"] spLReach := by
  refine calG_of T.g__law_reach T.d__law_reach sc__law_reach (fun _ _ _ _ _ _ _ us hl => match us, hl with | [_, _], _ => rfl) (fun vs H Q E h => by obtain ⟨c, k, rfl, _⟩ := h; rfl) (fun cdv A outer s H vs Q E hr h => ?_)
  have nd := sc__law_reach.nd
  have hu := hu64 hr
  obtain ⟨d, r, rfl, hd, hr', k⟩ := h
  refine ⟨_, (pss_cons (ps_set (i := 2) nd rfl (Or.inl rfl) pe_int)
        (pss_cons (ps_set (i := 3) nd rfl (Or.inl rfl) pe_int)
        (pss_cons (ps_for (passes_of rfl) rfl (pi_range1 (by rfl) T.f_range (pa_cons (pe_op (plusK (K := K)) (pe_callB (cr_min2 rfl) (by rfl) T.f_min (by decide +kernel) (pa_cons (pv 0) (pa_cons (pv 1) pa_nil))) pe_int) pa_nil)) (pg_name (i := 4) nd rfl (Or.inl rfl)) (pss_cons (ps_set (i := 2) nd rfl (Or.inl rfl) (pe_op (plusK (K := K)) (pv 2) (pv 3)))
        (pss_one (ps_set (i := 3) nd rfl (Or.inl rfl) (pe_op op_fdivW (pe_op op_timesB (pe_op op_timesB (pe_op op_timesB (pv 3) pe_int) (pe_op op_sub (pv 0) (pv 4))) (pe_op op_sub (pv 1) (pv 4))) (pe_op op_timesB (pe_op (plusK (K := K)) (pv 4) pe_int) (pe_op (plusK (K := K)) (pv 4) pe_int)))))))
        (pss_one (ps_ret (pv 2)))))), ?_⟩
  walk_at "st"
  have em : (min (d : Int) (r : Int) + 1).toNat = min d r + 1 := by omega
  rw [em]
  refine forW_range (fun i σ' H' => ∃ v, σ' = [some (.int d), some (.int r), some (.int (Del.sm (Del.tm d r) i : Nat)), some (.int (Del.tm d r i : Nat)), v] ∧ H' = H) ⟨none, ?_, rfl⟩ ?_ ?_
  · simp [Del.sm, Del.tm, Del.ch_0]
    rfl
  · rintro i σ' H' hi ⟨v, rfl, rfl⟩
    have hi' : i ≤ min d r := by omega
    walk_at "st"
    refine r_timesB (cmR (by decide) (by decide)) ?_
    walk_at "st"
    refine r_timesB (cmR (by omega) (by omega)) ?_
    walk_at "st"
    refine r_timesB (cmR (by omega) (by omega)) ?_
    walk_at "st"
    refine r_timesB (cmR (by omega) (by omega)) ?_
    walk_at "st"
    have hq : (0 : Int) < ((0 + (i : Int)) + 1) * ((0 + (i : Int)) + 1) := Int.mul_pos (by omega) (by omega)
    have hq2 : ((0 + (i : Int)) + 1) * ((0 + (i : Int)) + 1) < 2 ^ 250 := by
      have : ((0 + (i : Int)) + 1) * ((0 + (i : Int)) + 1) ≤ 5001 * 5001 := Int.mul_le_mul (by omega) (by omega) (by omega) (by omega)
      omega
    refine r_div (cdW hq hq2) ?_
    refine ⟨some (.int (0 + (i : Int))), ?_, rfl⟩
    show [some (V.int d), some (V.int r), some (V.int _), some (V.int _), _] = _
    have e := tmz d r i hi'
    rw [← Int.zero_add (i : Int)] at e
    rw [e]
    rw [show Del.sm (Del.tm d r) (i + 1) = Del.sm (Del.tm d r) i + Del.tm d r i from rfl]
    rw [Int.natCast_add]
  · rintro σ' H' ⟨v, rfl, rfl⟩
    walk_at "st"
    rw [← Del.D_min]
    exact k

/-! ### what a call answers, what is due -/
/-- the answer told as data -/
inductive Ans
  | told (n : Int)
  | err (c what : Str)
def Ans.d : Ans → PyData
  | .told n => .tuple [.str "told", .int n]
  | .err c x => .tuple [.str c, .str x]
theorem Ans.small (a : Ans) : smallD 2 a.d := by
  cases a with
  | told n => exact small_tup (by show 2 ≤ 100000; decide) (fun e he => by
      simp at he
      rcases he with rfl | rfl
      · exact small_str _ _
      · exact small_int _ _)
  | err c x => exact small_tup (by show 2 ≤ 100000; decide) (fun e he => by
      simp at he
      rcases he with rfl | rfl
      · exact small_str _ _
      · exact small_str _ _)
theorem told_dp {q : Addr} {H : Hp} {n : Int} (h : H q = some (.tup [.str "told", .int n])) : Dp K H (.ref q) (Ans.told n).d := .tup (sqT h) (.cons (.str _) (.cons (.int _) .nil))
theorem err_dp {q : Addr} {H : Hp} {c x : Str} (h : H q = some (.tup [.str c, .str x])) : Dp K H (.ref q) (Ans.err c x).d := .tup (sqT h) (.cons (.str _) (.cons (.str _) .nil))
/-- the least r with n at most D(d, r), told by its index -/
def IsLeast (n d r : Int) : Prop := ∃ m : Nat, r = m ∧ Del.Least n.toNat d.toNat m
/-- what (which, a, b) comes to -/
def Due (which a b : Int) (x : Ans) : Prop :=
  if which = 0 then (if 100 < a ∨ 100 < b then x = .err "TooMany" "reach" else if a < 0 ∨ b < 0 then x = .err "BadLayout" (if a < 0 then "depth" else "load") else x = .told (Del.D a.toNat b.toNat : Nat))
  else if 10000 < a ∨ 100 < b then x = .err "TooMany" "reach" else if a < 1 then x = .err "BadLayout" "parts" else if b < 1 then x = .err "BadLayout" (if which = 1 then "depth" else "load") else ∃ r, x = .told r ∧ IsLeast a b r
theorem Due.uniq {which a b : Int} {x y : Ans} (h : Due which a b x) (g : Due which a b y) : x = y := by
  unfold Due at h g
  split at h <;> rename_i c0 <;> (try rw [if_pos c0] at g) <;> (try rw [if_neg c0] at g)
  · split at h <;> rename_i c1 <;> (try rw [if_pos c1] at g) <;> (try rw [if_neg c1] at g)
    · rw [h, g]
    · split at h <;> rename_i c2 <;> (try rw [if_pos c2] at g) <;> (try rw [if_neg c2] at g) <;> rw [h, g]
  · split at h <;> rename_i c1 <;> (try rw [if_pos c1] at g) <;> (try rw [if_neg c1] at g)
    · rw [h, g]
    · split at h <;> rename_i c2 <;> (try rw [if_pos c2] at g) <;> (try rw [if_neg c2] at g)
      · rw [h, g]
      · split at h <;> rename_i c3 <;> (try rw [if_pos c3] at g) <;> (try rw [if_neg c3] at g)
        · rw [h, g]
        · obtain ⟨r, rfl, m, rfl, l⟩ := h
          obtain ⟨r', rfl, m', rfl, l'⟩ := g
          rw [l.uniq l']
/-- the answer at x, nothing of before changed -/
def spAns (K : PySem.W.Frag) : Sp := fun vs H Q _ => ∃ (which a b : Int), vs = [.int which, .int a, .int b] ∧ (0 ≤ which ∧ which ≤ 2) ∧ ∀ x d H', Due which a b d → Ext H H' → Dp K H' x d.d → Q x H'
theorem sc__law_f_asked : FnScope ["which", "a", "b", "error"] ["which", "a", "b"] (defScope s__law_f_asked) := ⟨rfl, rfl, rfl, by decide +kernel, rfl, by decide +kernel, by decide +kernel⟩
theorem ok_law_f_asked (T : Txt w K mg) : CalG P w K mg base 8 "_law_f_asked" ["which", "a", "b"] (spAns K) := by
  have c_fault : FaultG P w K mg base faultL := ok_fault T
  have c_reach_of := ok_reach_of (P := P) (base := base) T
  have c_least_changed := ok_least_changed (P := P) (base := base) T
  have c_least_read := ok_least_read (P := P) (base := base) T
  refine calG_of T.g__law_f_asked T.d__law_f_asked sc__law_f_asked (fun _ _ _ _ _ _ _ us hl => match us, hl with | [_, _, _], _ => rfl) (fun vs H Q E h => by obtain ⟨c, k, b, rfl, _⟩ := h; rfl) (fun cdv A outer s H vs Q E hr h => ?_)
  have nd := sc__law_f_asked.nd
  have hu := hu64 hr
  obtain ⟨which, a, b, rfl, ⟨w0, w2⟩, k⟩ := h
  refine ⟨_, (pss_one (ps_tryZ (i := 3) (ts := fun a cls d => tRet (tCallS (spFlts K faultL a cls d) (WE fun _ _ _ _ => False) (tCons (tVar 3) tNil))) rfl rfl nd rfl rfl ⟨rfl, by decide, Or.inl T.g_OutsideError⟩ (L2N.takes_of rfl rfl rfl rfl) (fun W z => (pss_cons (ps_if (pt_cmpR (sameK (K := K) hu) (pv 0) pe_int (nomark _)) (pss_one (ps_ret (pe_tup (pa_cons pe_str (pa_cons (pe_cal c_reach_of hr (by omega) (fun σ => L2N.passAt z.tk σ) (pa_cons (pv 1) (pa_cons (pv 2) pa_nil))) pa_nil))))) pss_nil)
        (pss_cons (ps_if (pt_cmpR (sameK (K := K) hu) (pv 0) pe_int (nomark _)) (pss_one (ps_ret (pe_tup (pa_cons pe_str (pa_cons (pe_cal c_least_changed hr (by omega) (fun σ => L2N.passAt z.tk σ) (pa_cons (pv 1) (pa_cons (pv 2) pa_nil))) pa_nil))))) pss_nil)
        (pss_one (ps_ret (pe_tup (pa_cons pe_str (pa_cons (pe_cal c_least_read hr (by omega) (fun σ => L2N.passAt z.tk σ) (pa_cons (pv 1) (pa_cons (pv 2) pa_nil))) pa_nil)))))))) (fun a oe cls d pn hz hf => (pss_one (ps_ret (pe_fault c_fault (L2H.roomH_mark (hr.mono (by omega)) _) hz (hotOf hz hf) (List.mem_cons_self) (pv 3))))))), ?_⟩
  have inl1 : (("TooMany" : Str), (["what"] : List Str)) ∈ faultL := by simp [faultL]
  have inl2 : (("BadLayout" : Str), (["what"] : List Str)) ∈ faultL := by simp [faultL]
  have ex1 := T.kits.exm "TooMany" (by simp [errs])
  have ex2 := T.kits.exm "BadLayout" (by simp [errs])
  have tell : ∀ {c what q H'}, Due which a b (.err c what) → Ext H H' → H' q = some (.tup [.str c, .str what]) → Q (.ref q) H' := fun hd e h => k _ _ _ hd e (err_dp h)
  intro z
  walk_at "st"
  refine ite_d (fun c0 => ?_) (fun c0 => ?_)
  · walk_at "st"
    have c0 : which = 0 := V.int.inj c0
    refine ⟨a, b, rfl, fun c => ?_, fun c1 c2 c3 => ?_, fun c1 c2 c3 c4 => ?_, fun c1 c2 c3 c4 H1 e1 => ?_⟩
    · exact bad_tell ex1 inl1 (Nat.le_of_ble_eq_true rfl) fun q H' e h => tell (by unfold Due; rw [if_pos c0, if_pos c]) e h
    · exact bad_tell ex2 inl2 (Nat.le_of_ble_eq_true rfl) fun q H' e h => tell (by unfold Due; rw [if_pos c0, if_neg (by omega), if_pos (by omega), if_pos c3]) e h
    · exact bad_tell ex2 inl2 (Nat.le_of_ble_eq_true rfl) fun q H' e h => tell (by unfold Due; rw [if_pos c0, if_neg (by omega), if_pos (by omega), if_neg (by omega)]) e h
    · walk_at "st"
      intro p H2 hp e2 h2
      exact k _ _ _ (by unfold Due; rw [if_pos c0, if_neg (by omega), if_neg (by omega)]) (e1.trans e2) (told_dp h2)
  · have c0 : which ≠ 0 := fun e => c0 (by rw [e])
    walk_at "st"
    refine ite_d (fun c1 => ?_) (fun c1 => ?_)
    · walk_at "st"
      have c1 : which = 1 := V.int.inj c1
      refine ⟨a, b, rfl, fun c => ?_, fun c1 c2 c3 => ?_, fun c1 c2 c3 c4 => ?_, fun c1 c2 c3 c4 r H1 hl e1 => ?_⟩
      · exact bad_tell ex1 inl1 (Nat.le_of_ble_eq_true rfl) fun q H' e h => tell (by unfold Due; rw [if_neg c0, if_pos c]) e h
      · exact bad_tell ex2 inl2 (Nat.le_of_ble_eq_true rfl) fun q H' e h => tell (by unfold Due; rw [if_neg c0, if_neg (by omega), if_pos c3]) e h
      · exact bad_tell ex2 inl2 (Nat.le_of_ble_eq_true rfl) fun q H' e h => tell (by unfold Due; rw [if_neg c0, if_neg (by omega), if_neg (by omega), if_pos c4, if_pos (by omega)]) e h
      · walk_at "st"
        intro p H2 hp e2 h2
        exact k _ _ _ (by unfold Due; rw [if_neg c0, if_neg (by omega), if_neg (by omega), if_neg (by omega)]; exact ⟨_, rfl, r, rfl, hl⟩) (e1.trans e2) (told_dp h2)
    · have c1 : which ≠ 1 := fun e => c1 (by rw [e])
      walk_at "st"
      refine ⟨a, b, rfl, fun c => ?_, fun c1 c2 c3 => ?_, fun c1 c2 c3 c4 => ?_, fun c1 c2 c3 c4 r H1 hl e1 => ?_⟩
      · exact bad_tell ex1 inl1 (Nat.le_of_ble_eq_true rfl) fun q H' e h => tell (by unfold Due; rw [if_neg c0, if_pos c]) e h
      · exact bad_tell ex2 inl2 (Nat.le_of_ble_eq_true rfl) fun q H' e h => tell (by unfold Due; rw [if_neg c0, if_neg (by omega), if_pos c3]) e h
      · exact bad_tell ex2 inl2 (Nat.le_of_ble_eq_true rfl) fun q H' e h => tell (by unfold Due; rw [if_neg c0, if_neg (by omega), if_neg (by omega), if_pos c4, if_neg (by omega)]) e h
      · walk_at "st"
        intro p H2 hp e2 h2
        exact k _ _ _ (by unfold Due; rw [if_neg c0, if_neg (by omega), if_neg (by omega), if_neg (by omega)]; exact ⟨_, rfl, r, rfl, hl⟩) (e1.trans e2) (told_dp h2)

end
end K25
set_option maxRecDepth 100000
set_option maxHeartbeats 4000000
namespace K25
open PySem PySem.Spec PyProof.Rows L2 L3
local macro_rules | `(tactic| walk_at "s1") => `(tactic| first
  | with_reducible refine r_seq ?_
  | with_reducible refine r_asgN ?_
  | with_reducible refine r_ret ?_
  | with_reducible refine r_next ?_
  | ((with_reducible refine' r_var ?hv ?_); (case hv => exact rfl))
  | with_reducible refine r_c ?_
  | with_reducible refine r_op ?_
  | with_reducible refine r_cons ?_
  | with_reducible refine r_nil ?_
  | with_reducible refine r_plusI ?_
  | with_reducible refine r_I0 ?_
  | with_reducible refine r_test ?_
  | with_reducible refine r_bl ?_
  | with_reducible refine r_ifS ?_
  | with_reducible refine r_cb ?_
  | with_reducible refine r_callS ?_
  | with_reducible refine r_and ?_
  | with_reducible refine r_or ?_
  | with_reducible refine r_not ?_
  | with_reducible refine r_B ?_
  | ((with_reducible refine' r_aug ?hv ?_); (case hv => exact rfl))
  | with_reducible refine r_augS ?_
  | with_reducible refine r_ipI ?_
  | with_reducible refine r_asg ?_
  | with_reducible refine r_sub ?_
  | with_reducible refine r_brk ?_
  | with_reducible refine r_isN1 ?_
  | with_reducible refine r_notN1 ?_
  | with_reducible refine r_intI ?_
  | with_reducible refine r_abs ?_
  | with_reducible refine r_min ?_
  | with_reducible refine r_max ?_
  | ((with_reducible refine' r_mod ?hz ?_); (case hz => omega))
  | ((with_reducible refine' r_pow ?hz ?_); (case hz => exact ⟨by decide, by decide, by decide⟩))
  | ((with_reducible refine' r_rg1 ?hz ?_); (case hz => omega))
  | ((with_reducible refine' r_rg2 ?hz ?_); (case hz => omega))
  | ((with_reducible refine' r_newL ?hz ?_); (case hz => exact Nat.le_of_ble_eq_true rfl))
  | ((with_reducible refine' r_newT ?hz ?_); (case hz => exact Nat.le_of_ble_eq_true rfl))
  | with_reducible refine r_for ?_
  | with_reducible refine r_lc ?_
  | with_reducible refine r_iR1 ?_
  | with_reducible refine r_iR2 ?_
  | with_reducible refine r_iL ?_
  | with_reducible refine r_iT ?_
  | with_reducible refine r_gname ?_
  | with_reducible refine r_gcons ?_
  | with_reducible refine r_gnil ?_
  | with_reducible refine r_yes ?_
  | with_reducible refine r_mkO ?_
  | with_reducible refine r_cont ?_
  | with_reducible refine r_drop ?_
  | with_reducible refine r_retN ?_
  | with_reducible refine r_ifC ?_
  | with_reducible refine r_ifI ?_
  | with_reducible refine r_if ?_
  | with_reducible refine r_un ?_
  | with_reducible refine r_neg ?_
  | with_reducible refine r_andV ?_
  | with_reducible refine r_orV ?_
  | with_reducible refine r_notV ?_
  | with_reducible refine r_tup ?_
  | with_reducible refine r_lst ?_
  | with_reducible refine r_bm ?_
  | with_reducible refine r_bm0 ?_
  | with_reducible refine r_sl ?_
  | with_reducible refine r_chain ?_
  | with_reducible refine r_noPart ?_
  | with_reducible refine r_part ?_
  | with_reducible refine r_int ?_
  | ((with_reducible refine' r_sameS ?hs ?_); (case hs => exact rfl))
  | ((with_reducible refine' r_otherS ?hs ?_); (case hs => exact rfl))
  | with_reducible refine ite_t ?_
  | with_reducible refine ite_f ?_
  | with_reducible refine ite_nt ?_
  | with_reducible refine ite_nf ?_)
local macro_rules | `(tactic| walk_at "st") => `(tactic| repeat (walk_at "s1"))

section
variable {P : Program} {w : World} {K : PySem.W.Frag} {mg : Str → Option Value} {base : Heap}
/-! ### the least load, by halves -/
def spLeastL : Sp := fun vs H Q _ => ∃ (n : Int) (d : Nat), vs = [.int n, .int d] ∧ n ≤ 10000 ∧ 1 ≤ d ∧ d ≤ 100 ∧ ∀ (r : Nat), Del.Least n.toNat d r → Q (.int r) H
theorem sc__law_f_least : FnScope ["n", "d", "low", "high", "mid"] ["n", "d"] (defScope s__law_f_least) := ⟨rfl, rfl, rfl, by decide +kernel, rfl, by decide +kernel, by decide +kernel⟩
theorem ok_law_f_least (T : Txt w K mg) : CalG P w K mg base 3 "_law_f_least" ["n", "d"] spLeastL := by
  have c__law_reach := ok_law_reach (P := P) (base := base) T
  refine calG_of T.g__law_f_least T.d__law_f_least sc__law_f_least (fun _ _ _ _ _ _ _ us hl => match us, hl with | [_, _], _ => rfl) (fun vs H Q E h => by obtain ⟨d, r, rfl, _⟩ := h; rfl) (fun cdv A outer s H vs Q E hr h => ?_)
  have nd := sc__law_f_least.nd
  have hu := hu64 hr
  obtain ⟨n, d, rfl, hn, d1, d2, k⟩ := h
  refine ⟨_, (pss_cons (ps_set (i := 2) nd rfl (Or.inl rfl) pe_int)
        (pss_cons (ps_set (i := 3) nd rfl (Or.inl rfl) pe_int)
        (pss_cons (ps_while (passes_of rfl) (pt_cmpR op_lt (pv 2) (pv 3) (nomark _)) (pss_cons (ps_set (i := 4) nd rfl (Or.inl rfl) (pe_op op_fdivW (pe_op (plusK (K := K)) (pv 2) (pv 3)) pe_int))
        (pss_one (ps_if (pt_cmpR op_ge (pe_cal c__law_reach hr (by omega) (fun σ => L2N.passAt (L2N.takes_of rfl rfl rfl rfl) σ) (pa_cons (pv 1) (pa_cons (pv 4) pa_nil))) (pv 0) (nomark _)) (pss_one (ps_set (i := 3) nd rfl (Or.inl rfl) (pv 4))) (pss_one (ps_set (i := 2) nd rfl (Or.inl rfl) (pe_op (plusK (K := K)) (pv 4) pe_int)))))))
        (pss_one (ps_ret (pv 2)))))), ?_⟩
  walk_at "st"
  refine whileW (fun μ σ' H' => ∃ (lo hi : Nat) (v : Option V), μ = hi - lo ∧ σ' = [some (.int n), some (.int d), some (.int lo), some (.int hi), v] ∧ H' = H ∧ lo ≤ hi ∧ hi ≤ 5000 ∧ n.toNat ≤ Del.D d hi ∧ ∀ r', r' < lo → Del.D d r' < n.toNat) 5000
    ⟨0, 5000, none, rfl, rfl, rfl, by omega, by omega, by have := Del.D_ge d 5000 d1; omega, fun _ h => absurd h (Nat.not_lt_zero _)⟩ ?_
  rintro μ σ' H' ⟨lo, hi, v, rfl, rfl, rfl, h1, h2, h3, h4⟩
  walk_at "st"
  refine ite_d (fun c => r_N ?_) (fun c => ?_)
  · walk_at "st"
    refine r_div (cdW (by decide) (by decide)) ?_
    have em : ((lo : Int) + (hi : Int)) / 2 = (((lo + hi) / 2 : Nat) : Int) := by omega
    rw [em]
    walk_at "st"
    refine ⟨d, (lo + hi) / 2, rfl, by omega, by omega, ?_⟩
    walk_at "st"
    refine ite_d (fun c2 => ?_) (fun c2 => ?_)
    · walk_at "st"
      exact ⟨_, by omega, lo, (lo + hi) / 2, _, rfl, rfl, rfl, by omega, by omega, by omega, h4⟩
    · walk_at "st"
      refine ⟨hi - ((lo + hi) / 2 + 1), by omega, (lo + hi) / 2 + 1, hi, some (.int ((lo + hi) / 2 : Nat)), rfl, ?_, rfl, by omega, by omega, h3, fun r' hr' => ?_⟩
      · rw [Int.natCast_add]
        rfl
      · have := Del.D_mono d (r := r') (r' := (lo + hi) / 2) (by omega)
        omega
  · walk_at "st"
    have e : lo = hi := by omega
    subst e
    exact k lo ⟨h3, h4⟩
theorem sc__law_f_due : FnScope ["which", "a", "b"] ["which", "a", "b"] (defScope s__law_f_due) := ⟨rfl, rfl, rfl, by decide +kernel, rfl, by decide +kernel, by decide +kernel⟩
theorem ok_law_f_due (T : Txt w K mg) : CalG P w K mg base 4 "_law_f_due" ["which", "a", "b"] (spAns K) := by
  have c__law_reach := ok_law_reach (P := P) (base := base) T
  have c__law_f_least := ok_law_f_least (P := P) (base := base) T
  refine calG_of T.g__law_f_due T.d__law_f_due sc__law_f_due (fun _ _ _ _ _ _ _ us hl => match us, hl with | [_, _, _], _ => rfl) (fun vs H Q E h => by obtain ⟨c, k, b, rfl, _⟩ := h; rfl) (fun cdv A outer s H vs Q E hr h => ?_)
  have nd := sc__law_f_due.nd
  have hu := hu64 hr
  obtain ⟨which, a, b, rfl, ⟨w0, w2⟩, k⟩ := h
  refine ⟨_, (pss_cons (ps_if (pt_cmpR (sameK (K := K) hu) (pv 0) pe_int (nomark _)) (pss_cons (ps_if (PW.pt (pw_or (pt_cmpR op_gt (pv 1) pe_int (nomark _)) (pw_or1 (pt_cmpR op_gt (pv 2) pe_int (nomark _))))) (pss_one (ps_ret (pe_tup (pa_cons pe_str (pa_cons pe_str pa_nil))))) pss_nil)
        (pss_cons (ps_if (PW.pt (pw_or (pt_cmpR op_lt (pv 1) pe_int (nomark _)) (pw_or1 (pt_cmpR op_lt (pv 2) pe_int (nomark _))))) (pss_one (ps_ret (pe_tup (pa_cons pe_str (pa_cons (pe_ifExp (pt_cmpR op_lt (pv 1) pe_int (nomark _)) pe_str pe_str) pa_nil))))) pss_nil)
        (pss_one (ps_ret (pe_tup (pa_cons pe_str (pa_cons (pe_cal c__law_reach hr (by omega) (fun σ => L2N.passAt (L2N.takes_of rfl rfl rfl rfl) σ) (pa_cons (pv 1) (pa_cons (pv 2) pa_nil))) pa_nil))))))) pss_nil)
        (pss_cons (ps_if (PW.pt (pw_or (pt_cmpR op_gt (pv 1) pe_int (nomark _)) (pw_or1 (pt_cmpR op_gt (pv 2) pe_int (nomark _))))) (pss_one (ps_ret (pe_tup (pa_cons pe_str (pa_cons pe_str pa_nil))))) pss_nil)
        (pss_cons (ps_if (pt_cmpR op_lt (pv 1) pe_int (nomark _)) (pss_one (ps_ret (pe_tup (pa_cons pe_str (pa_cons pe_str pa_nil))))) pss_nil)
        (pss_cons (ps_if (pt_cmpR op_lt (pv 2) pe_int (nomark _)) (pss_one (ps_ret (pe_tup (pa_cons pe_str (pa_cons (pe_ifExp (pt_cmpR (sameK (K := K) hu) (pv 0) pe_int (nomark _)) pe_str pe_str) pa_nil))))) pss_nil)
        (pss_one (ps_ret (pe_tup (pa_cons pe_str (pa_cons (pe_cal c__law_f_least hr (by omega) (fun σ => L2N.passAt (L2N.takes_of rfl rfl rfl rfl) σ) (pa_cons (pv 1) (pa_cons (pv 2) pa_nil))) pa_nil))))))))), ?_⟩
  have tell : ∀ {c what q H'}, Due which a b (.err c what) → Ext H H' → H' q = some (.tup [.str c, .str what]) → Q (.ref q) H' := fun hd e h => k _ _ _ hd e (err_dp h)
  have told : ∀ {n q H'}, Due which a b (.told n) → Ext H H' → H' q = some (.tup [.str "told", .int n]) → Q (.ref q) H' := fun hd e h => k _ _ _ hd e (told_dp h)
  walk_at "st"
  refine ite_d (fun c0 => ?_) (fun c0 => ?_)
  · have c0 : which = 0 := V.int.inj c0
    have t1 : 100 < a ∨ 100 < b → Due which a b (.err "TooMany" "reach") := fun c => by unfold Due; rw [if_pos c0, if_pos c]
    walk_at "st"
    refine ite_d (fun c1 => ?_) (fun c1 => ?_)
    · walk_at "st"
      intro p H2 hp e2 h2
      exact tell (t1 (by omega)) e2 h2
    walk_at "st"
    refine ite_d (fun c2 => ?_) (fun c2 => ?_)
    · walk_at "st"
      intro p H2 hp e2 h2
      exact tell (t1 (by omega)) e2 h2
    have t2 : a < 0 ∨ b < 0 → Due which a b (.err "BadLayout" (if a < 0 then "depth" else "load")) := fun c => by unfold Due; rw [if_pos c0, if_neg (by omega), if_pos c]
    walk_at "st"
    refine ite_d (fun c3 => ?_) (fun c3 => ?_)
    · walk_at "st"
      refine ite_d (fun c4 => ?_) (fun c4 => absurd c3 c4)
      walk_at "st"
      intro p H2 hp e2 h2
      have t2 := t2 (.inl c3)
      rw [if_pos c3] at t2
      exact tell t2 e2 h2
    walk_at "st"
    refine ite_d (fun c4 => ?_) (fun c4 => ?_)
    · walk_at "st"
      refine ite_d (fun c5 => absurd c5 c3) (fun c5 => ?_)
      walk_at "st"
      intro p H2 hp e2 h2
      have t2 := t2 (.inr c4)
      rw [if_neg c3] at t2
      exact tell t2 e2 h2
    walk_at "st"
    refine ⟨a.toNat, b.toNat, by rw [Int.toNat_of_nonneg (by omega), Int.toNat_of_nonneg (by omega)], by omega, by omega, ?_⟩
    walk_at "st"
    intro p H2 hp e2 h2
    exact told (by unfold Due; rw [if_pos c0, if_neg (by omega), if_neg (by omega)]) e2 h2
  · have c0 : which ≠ 0 := fun e => c0 (by rw [e])
    have t1 : 10000 < a ∨ 100 < b → Due which a b (.err "TooMany" "reach") := fun c => by unfold Due; rw [if_neg c0, if_pos c]
    walk_at "st"
    refine ite_d (fun c1 => ?_) (fun c1 => ?_)
    · walk_at "st"
      intro p H2 hp e2 h2
      exact tell (t1 (by omega)) e2 h2
    walk_at "st"
    refine ite_d (fun c2 => ?_) (fun c2 => ?_)
    · walk_at "st"
      intro p H2 hp e2 h2
      exact tell (t1 (by omega)) e2 h2
    walk_at "st"
    refine ite_d (fun c3 => ?_) (fun c3 => ?_)
    · walk_at "st"
      intro p H2 hp e2 h2
      exact tell (by unfold Due; rw [if_neg c0, if_neg (by omega), if_pos c3]) e2 h2
    have t3 : b < 1 → Due which a b (.err "BadLayout" (if which = 1 then "depth" else "load")) := fun c => by unfold Due; rw [if_neg c0, if_neg (by omega), if_neg c3, if_pos c]
    walk_at "st"
    refine ite_d (fun c4 => ?_) (fun c4 => ?_)
    · have t3 := t3 c4
      walk_at "st"
      refine ite_d (fun c5 => ?_) (fun c5 => ?_)
      · rw [if_pos (V.int.inj c5)] at t3
        walk_at "st"
        intro p H2 hp e2 h2
        exact tell t3 e2 h2
      · rw [if_neg (fun e => c5 (by rw [e]))] at t3
        walk_at "st"
        intro p H2 hp e2 h2
        exact tell t3 e2 h2
    walk_at "st"
    refine ⟨a, b.toNat, by rw [Int.toNat_of_nonneg (by omega)], by omega, by omega, by omega, fun r hl => ?_⟩
    walk_at "st"
    intro p H2 hp e2 h2
    exact told (by unfold Due; rw [if_neg c0, if_neg (by omega), if_neg c3, if_neg c4]; exact ⟨_, rfl, r, rfl, hl⟩) e2 h2
/-! ### the draws of the law -/
def spNum : Sp := fun vs H Q _ => ∃ (p : Addr) (m : Int), vs = [.ref p, .int m] ∧ Src H p ∧ 0 ≤ m ∧ m < 2 ^ 240 ∧ ∀ r H', 0 ≤ r → r ≤ max 8 m → Src H' p → (∀ b, b ≠ p → H' b = H b) → Q (.int r) H'
theorem sc__law_f_number : FnScope ["source", "most"] ["source", "most"] (defScope s__law_f_number) := ⟨rfl, rfl, rfl, by decide +kernel, rfl, by decide +kernel, by decide +kernel⟩
theorem ok_law_f_number (T : Txt w K mg) : CalG P w K mg base 3 "_law_f_number" ["source", "most"] spNum := by
  have c__law_pick := ok_law_pick (P := P) (base := base) T
  refine calG_of T.g__law_f_number T.d__law_f_number sc__law_f_number (fun _ _ _ _ _ _ _ us hl => match us, hl with | [_, _], _ => rfl) (fun vs H Q E h => by obtain ⟨c, k, rfl, _⟩ := h; rfl) (fun cdv A outer s H vs Q E hr h => ?_)
  have nd := sc__law_f_number.nd
  have hu := hu64 hr
  obtain ⟨p, m, rfl, sp, m0, m1, k⟩ := h
  refine ⟨_, (pss_one (ps_ret (pe_ifExp (pt_cmpR (sameK (K := K) hu) (pe_cal c__law_pick hr (by omega) (fun σ => L2N.passAt (L2N.takes_of rfl rfl rfl rfl) σ) (pa_cons (pv 0) (pa_cons pe_int pa_nil))) pe_int (nomark _)) (pe_cal c__law_pick hr (by omega) (fun σ => L2N.passAt (L2N.takes_of rfl rfl rfl rfl) σ) (pa_cons (pv 0) (pa_cons pe_int pa_nil))) (pe_cal c__law_pick hr (by omega) (fun σ => L2N.passAt (L2N.takes_of rfl rfl rfl rfl) σ) (pa_cons (pv 0) (pa_cons (pe_op (plusK (K := K)) (pv 1) pe_int) pa_nil)))))), ?_⟩
  walk_at "st"
  refine ⟨p, 2, rfl, sp, by decide, by decide, fun r H1 r0 r1 s1 n1 => ?_⟩
  walk_at "st"
  refine ite_d (fun c => ?_) (fun c => ?_)
  · walk_at "st"
    refine ⟨p, 9, rfl, s1, by decide, by decide, fun r2 H2 r20 r21 s2 n2 => ?_⟩
    exact k _ H2 r20 (by omega) s2 fun b hb => (n2 b hb).trans (n1 b hb)
  · walk_at "st"
    refine ⟨p, m + 1, rfl, s1, by omega, by omega, fun r2 H2 r20 r21 s2 n2 => ?_⟩
    exact k _ H2 r20 (by omega) s2 fun b hb => (n2 b hb).trans (n1 b hb)
def spParts : Sp := fun vs H Q _ => ∃ (p : Addr), vs = [.ref p] ∧ Src H p ∧ ∀ r H', 1 ≤ r → r ≤ 10000 → Src H' p → (∀ b, b ≠ p → H' b = H b) → Q (.int r) H'
theorem sc__law_f_parts : FnScope ["source", "near"] ["source"] (defScope s__law_f_parts) := ⟨rfl, rfl, rfl, by decide +kernel, rfl, by decide +kernel, by decide +kernel⟩
theorem ok_law_f_parts (T : Txt w K mg) : CalG P w K mg base 3 "_law_f_parts" ["source"] spParts := by
  have c__law_pick := ok_law_pick (P := P) (base := base) T
  have c__law_reach := ok_law_reach (P := P) (base := base) T
  refine calG_of T.g__law_f_parts T.d__law_f_parts sc__law_f_parts (fun _ _ _ _ _ _ _ us hl => match us, hl with | [_], _ => rfl) (fun vs H Q E h => by obtain ⟨c, rfl, _⟩ := h; rfl) (fun cdv A outer s H vs Q E hr h => ?_)
  have nd := sc__law_f_parts.nd
  have hu := hu64 hr
  obtain ⟨p, rfl, sp, k⟩ := h
  refine ⟨_, (pss_cons (ps_if (pt_cmpR (sameK (K := K) hu) (pe_cal c__law_pick hr (by omega) (fun σ => L2N.passAt (L2N.takes_of rfl rfl rfl rfl) σ) (pa_cons (pv 0) (pa_cons pe_int pa_nil))) pe_int (nomark _)) (pss_one (ps_ret (pe_op (plusK (K := K)) pe_int (pe_cal c__law_pick hr (by omega) (fun σ => L2N.passAt (L2N.takes_of rfl rfl rfl rfl) σ) (pa_cons (pv 0) (pa_cons pe_int pa_nil)))))) pss_nil)
        (pss_cons (ps_set (i := 1) nd rfl (Or.inl rfl) (pe_op op_sub (pe_op (plusK (K := K)) (pe_cal c__law_reach hr (by omega) (fun σ => L2N.passAt (L2N.takes_of rfl rfl rfl rfl) σ) (pa_cons (pe_cal c__law_pick hr (by omega) (fun σ => L2N.passAt (L2N.takes_of rfl rfl rfl rfl) σ) (pa_cons (pv 0) (pa_cons pe_int pa_nil))) (pa_cons (pe_cal c__law_pick hr (by omega) (fun σ => L2N.passAt (L2N.takes_of rfl rfl rfl rfl) σ) (pa_cons (pv 0) (pa_cons pe_int pa_nil))) pa_nil))) (pe_cal c__law_pick hr (by omega) (fun σ => L2N.passAt (L2N.takes_of rfl rfl rfl rfl) σ) (pa_cons (pv 0) (pa_cons pe_int pa_nil)))) pe_int))
        (pss_one (ps_ret (pe_callB (cr_max2 rfl) (by rfl) T.f_max (by decide +kernel) (pa_cons pe_int (pa_cons (pe_callB (cr_min2 rfl) (by rfl) T.f_min (by decide +kernel) (pa_cons pe_int (pa_cons (pv 1) pa_nil))) pa_nil))))))), ?_⟩
  walk_at "st"
  refine ⟨p, 2, rfl, sp, by decide, by decide, fun r H1 r0 r1 s1 n1 => ?_⟩
  walk_at "st"
  refine ite_d (fun c => ?_) (fun c => ?_)
  · walk_at "st"
    refine ⟨p, 10000, rfl, s1, by decide, by decide, fun r2 H2 r20 r21 s2 n2 => ?_⟩
    walk_at "st"
    exact k _ H2 (by omega) (by omega) s2 fun b hb => (n2 b hb).trans (n1 b hb)
  · walk_at "st"
    refine ⟨p, 8, rfl, s1, by decide, by decide, fun r2 H2 r20 r21 s2 n2 => ?_⟩
    walk_at "st"
    refine ⟨p, 8, rfl, s2, by decide, by decide, fun r3 H3 r30 r31 s3 n3 => ?_⟩
    walk_at "st"
    refine ⟨r2.toNat, r3.toNat, by rw [Int.toNat_of_nonneg r20, Int.toNat_of_nonneg r30], by omega, by omega, ?_⟩
    walk_at "st"
    refine ⟨p, 3, rfl, s3, by decide, by decide, fun r4 H4 r40 r41 s4 n4 => ?_⟩
    walk_at "st"
    exact k _ H4 (by omega) (by omega) s4 fun b hb => (n4 b hb).trans ((n3 b hb).trans ((n2 b hb).trans (n1 b hb)))
def spOdd : Sp := fun vs H Q _ => ∃ (p : Addr) (l m : Int), vs = [.ref p, .int l, .int m] ∧ Src H p ∧ ∀ r H', Src H' p → But p H H' → Q (.int r) H'
theorem sc__law_f_odd : FnScope ["source", "least", "most", "odd"] ["source", "least", "most"] (defScope s__law_f_odd) := ⟨rfl, rfl, rfl, by decide +kernel, rfl, by decide +kernel, by decide +kernel⟩
theorem ok_law_f_odd (T : Txt w K mg) : CalG P w K mg base 3 "_law_f_odd" ["source", "least", "most"] spOdd := by
  have c__law_pick := ok_law_pick (P := P) (base := base) T
  refine calG_of T.g__law_f_odd T.d__law_f_odd sc__law_f_odd (fun _ _ _ _ _ _ _ us hl => match us, hl with | [_, _, _], _ => rfl) (fun vs H Q E h => by obtain ⟨c, l, m, rfl, _⟩ := h; rfl) (fun cdv A outer s H vs Q E hr h => ?_)
  have nd := sc__law_f_odd.nd
  have hu := hu64 hr
  obtain ⟨p, l, m, rfl, sp, k⟩ := h
  refine ⟨_, (pss_cons (ps_set (i := 3) nd rfl (Or.inl rfl) (pe_lst (pa_cons (pe_op op_sub (pv 1) pe_int) (pa_cons (pe_op op_sub (pe_op op_sub (pv 1) pe_int) (pe_cal c__law_pick hr (by omega) (fun σ => L2N.passAt (L2N.takes_of rfl rfl rfl rfl) σ) (pa_cons (pv 0) (pa_cons pe_int pa_nil)))) (pa_cons (pv 1) (pa_cons (pv 2) (pa_cons (pe_op (plusK (K := K)) (pv 2) pe_int) (pa_cons (pe_op (plusK (K := K)) (pe_op (plusK (K := K)) (pv 2) pe_int) (pe_cal c__law_pick hr (by omega) (fun σ => L2N.passAt (L2N.takes_of rfl rfl rfl rfl) σ) (pa_cons (pv 0) (pa_cons (pe_op op_pow pe_int pe_int) pa_nil)))) pa_nil))))))))
        (pss_one (ps_ret (pe_ix (ixK (K := K)) (pv 3) (pe_cal c__law_pick hr (by omega) (fun σ => L2N.passAt (L2N.takes_of rfl rfl rfl rfl) σ) (pa_cons (pv 0) (pa_cons pe_int pa_nil))) (fun _ _ => rfl))))), ?_⟩
  walk_at "st"
  refine ⟨p, 50, rfl, sp, by decide, by decide, fun r H1 r0 r1 s1 n1 => ?_⟩
  walk_at "st"
  refine ⟨p, _, rfl, s1, by decide, by decide, fun r2 H2 r20 r21 s2 n2 => ?_⟩
  walk_at "st"
  intro q H3 hq e3 h3
  walk_at "st"
  refine ⟨p, 6, rfl, s2.ext e3, by decide, by decide, fun r3 H4 r30 r31 s4 n4 => ?_⟩
  walk_at "st"
  have npq : q ≠ p := (src_ne s2 hq).symm
  have h4 := stay n4 npq h3
  have hb : But p H H4 := (((But.of n1).trans (.of n2)).ext e3).trans (.of n4)
  have e : ∃ x, atI [V.int (l - 1), V.int (l - 1 - r), V.int l, V.int m, V.int (m + 1), V.int (m + 1 + r2)] r3 = some (V.int x) := by
    obtain ⟨j, rfl⟩ : ∃ j : Nat, r3 = j := ⟨r3.toNat, by omega⟩
    have hj : j < 6 := by omega
    rcases j with _ | _ | _ | _ | _ | _ | j
    · exact ⟨_, atI_nat (j := 0) rfl⟩
    · exact ⟨_, atI_nat (j := 1) rfl⟩
    · exact ⟨_, atI_nat (j := 2) rfl⟩
    · exact ⟨_, atI_nat (j := 3) rfl⟩
    · exact ⟨_, atI_nat (j := 4) rfl⟩
    · exact ⟨_, atI_nat (j := 5) rfl⟩
    · omega
  obtain ⟨x, e⟩ := e
  refine r_atL (sqL h4) e ?_
  exact k x H4 s4 hb

end
end K25
set_option maxRecDepth 100000
set_option maxHeartbeats 4000000
namespace K25
open PySem PySem.Spec PyProof.Rows L2 L3
local macro_rules | `(tactic| walk_at "s1") => `(tactic| first
  | with_reducible refine r_seq ?_
  | with_reducible refine r_asgN ?_
  | with_reducible refine r_ret ?_
  | with_reducible refine r_next ?_
  | ((with_reducible refine' r_var ?hv ?_); (case hv => exact rfl))
  | with_reducible refine r_c ?_
  | with_reducible refine r_op ?_
  | with_reducible refine r_cons ?_
  | with_reducible refine r_nil ?_
  | with_reducible refine r_plusI ?_
  | with_reducible refine r_I0 ?_
  | with_reducible refine r_test ?_
  | with_reducible refine r_bl ?_
  | with_reducible refine r_ifS ?_
  | with_reducible refine r_cb ?_
  | with_reducible refine r_callS ?_
  | with_reducible refine r_and ?_
  | with_reducible refine r_or ?_
  | with_reducible refine r_not ?_
  | with_reducible refine r_B ?_
  | ((with_reducible refine' r_aug ?hv ?_); (case hv => exact rfl))
  | with_reducible refine r_augS ?_
  | with_reducible refine r_ipI ?_
  | with_reducible refine r_asg ?_
  | with_reducible refine r_sub ?_
  | with_reducible refine r_brk ?_
  | with_reducible refine r_isN1 ?_
  | with_reducible refine r_notN1 ?_
  | with_reducible refine r_intI ?_
  | with_reducible refine r_abs ?_
  | with_reducible refine r_min ?_
  | with_reducible refine r_max ?_
  | ((with_reducible refine' r_mod ?hz ?_); (case hz => omega))
  | ((with_reducible refine' r_pow ?hz ?_); (case hz => exact ⟨by decide, by decide, by decide⟩))
  | ((with_reducible refine' r_rg1 ?hz ?_); (case hz => omega))
  | ((with_reducible refine' r_rg2 ?hz ?_); (case hz => omega))
  | ((with_reducible refine' r_newL ?hz ?_); (case hz => exact Nat.le_of_ble_eq_true rfl))
  | ((with_reducible refine' r_newT ?hz ?_); (case hz => exact Nat.le_of_ble_eq_true rfl))
  | with_reducible refine r_for ?_
  | with_reducible refine r_lc ?_
  | with_reducible refine r_iR1 ?_
  | with_reducible refine r_iR2 ?_
  | with_reducible refine r_iL ?_
  | with_reducible refine r_iT ?_
  | with_reducible refine r_gname ?_
  | with_reducible refine r_gcons ?_
  | with_reducible refine r_gnil ?_
  | with_reducible refine r_yes ?_
  | with_reducible refine r_mkO ?_
  | with_reducible refine r_cont ?_
  | with_reducible refine r_drop ?_
  | with_reducible refine r_retN ?_
  | with_reducible refine r_ifC ?_
  | with_reducible refine r_ifI ?_
  | with_reducible refine r_if ?_
  | with_reducible refine r_un ?_
  | with_reducible refine r_neg ?_
  | with_reducible refine r_andV ?_
  | with_reducible refine r_orV ?_
  | with_reducible refine r_notV ?_
  | with_reducible refine r_tup ?_
  | with_reducible refine r_lst ?_
  | with_reducible refine r_bm ?_
  | with_reducible refine r_bm0 ?_
  | with_reducible refine r_sl ?_
  | with_reducible refine r_chain ?_
  | with_reducible refine r_noPart ?_
  | with_reducible refine r_part ?_
  | with_reducible refine r_int ?_
  | ((with_reducible refine' r_sameS ?hs ?_); (case hs => exact rfl))
  | ((with_reducible refine' r_otherS ?hs ?_); (case hs => exact rfl))
  | with_reducible refine ite_t ?_
  | with_reducible refine ite_f ?_
  | with_reducible refine ite_nt ?_
  | with_reducible refine ite_nf ?_)
local macro_rules | `(tactic| walk_at "st") => `(tactic| repeat (walk_at "s1"))

section
variable {P : Program} {w : World} {K : PySem.W.Frag} {mg : Str → Option Value} {base : Heap}
/-! ### what is asked -/
/-- [which, a, b], apart from the objects that change -/
def Item (S : List Addr) (H : Hp) (x : V) : Prop := ∃ (a : Addr) (wh u v : Int), x = .ref a ∧ H a = some (.lst [.int wh, .int u, .int v]) ∧ (0 ≤ wh ∧ wh ≤ 2) ∧ a ∉ S
def Asked (S : List Addr) (l : Addr) (n : Nat) (H : Hp) : Prop := ∃ xs, H l = some (.lst xs) ∧ xs.length = n ∧ ∀ x ∈ xs, Item S H x
theorem Item.ext {S : List Addr} {H H' : Hp} {x : V} (i : Item S H x) (e : Ext H H') : Item S H' x := by
  obtain ⟨a, wh, u, v, rfl, h, hw, ha⟩ := i
  exact ⟨a, wh, u, v, rfl, e _ _ h, hw, ha⟩
theorem Item.but {S : List Addr} {H H' : Hp} {x : V} {p : Addr} (i : Item S H x) (hp : p ∈ S) (b : But p H H') : Item S H' x := by
  obtain ⟨a, wh, u, v, rfl, h, hw, ha⟩ := i
  exact ⟨a, wh, u, v, rfl, b _ _ (fun e => ha (e ▸ hp)) h, hw, ha⟩
theorem Item.sub {S S' : List Addr} {H : Hp} {x : V} (i : Item S H x) (h : ∀ q ∈ S', q ∈ S ∨ H q = none) : Item S' H x := by
  obtain ⟨a, wh, u, v, rfl, h0, hw, ha⟩ := i
  exact ⟨a, wh, u, v, rfl, h0, hw, fun z => (h a z).elim ha fun e => by rw [h0] at e; cases e⟩
theorem Asked.ext {S : List Addr} {l : Addr} {n : Nat} {H H' : Hp} (a : Asked S l n H) (e : Ext H H') : Asked S l n H' := by
  obtain ⟨xs, h, hn, hx⟩ := a
  exact ⟨xs, e _ _ h, hn, fun x z => (hx x z).ext e⟩
theorem Asked.but {S : List Addr} {l : Addr} {n : Nat} {H H' : Hp} {p : Addr} (a : Asked S l n H) (hp : p ∈ S) (hl : l ≠ p) (e : But p H H') : Asked S l n H' := by
  obtain ⟨xs, h, hn, hx⟩ := a
  exact ⟨xs, e _ _ hl h, hn, fun x z => (hx x z).but hp e⟩
theorem Asked.sub {S S' : List Addr} {l : Addr} {n : Nat} {H : Hp} (a : Asked S l n H) (h : ∀ q ∈ S', q ∈ S ∨ H q = none) : Asked S' l n H := by
  obtain ⟨xs, h0, hn, hx⟩ := a
  exact ⟨xs, h0, hn, fun x z => (hx x z).sub h⟩
/-- a new row at the end -/
theorem Asked.push {S : List Addr} {l q : Addr} {n : Nat} {H H1 : Hp} {wh u v : Int} {Q : VK} (a : Asked S l n H) (hl : l ∈ S) (hS : ∀ p ∈ S, H p ≠ none) (hq : H q = none) (e : Ext H H1) (h : H1 q = some (.lst [.int wh, .int u, .int v])) (hw : 0 ≤ wh ∧ wh ≤ 2) (hz : n < 100000)
    (k : ∀ H', Asked S l (n + 1) H' → (∀ b, b ≠ l → H' b = H1 b) → Q .non H') : rAppend (.ref l) [.ref q] H1 Q := by
  obtain ⟨xs, h0, hn, hx⟩ := a
  refine r_app (e _ _ h0) (by omega) (fun H' h1 n1 => k H' ⟨_, h1, by rw [List.length_append, hn]; rfl, fun x z => ?_⟩ n1)
  have b : But l H H' := (ext_but e).trans (.of n1)
  rcases List.mem_append.mp z with z | z
  · exact (hx x z).but hl b
  · rw [List.mem_singleton] at z
    subst z
    have nq : q ∉ S := fun z => hS q z hq
    exact ⟨q, wh, u, v, rfl, (n1 q fun z => nq (z ▸ hl)).trans h, hw, nq⟩
/-- the sources P, the rows asked at l, the script -/
structure W1 (K : PySem.W.Frag) (a0 : Addr) (xs : List V) (P : List Addr) (l : Addr) (n : Nat) (H : Hp) : Prop where
  s : ∀ q ∈ P, Src H q
  a : Asked (l :: P) l n H
  sc : Sc K (l :: P) a0 xs H
  ne : l ∉ P
theorem lst_some {H : Hp} {S : List Addr} {l : Addr} {n : Nat} (a : Asked S l n H) : H l ≠ none := by
  obtain ⟨xs, h, _⟩ := a
  rw [h]
  exact fun z => nomatch z
section
variable {K : PySem.W.Frag} {a0 l q : Addr} {xs : List V} {P : List Addr} {n : Nat} {H H' H1 : Hp}
theorem W1.ext (w : W1 K a0 xs P l n H) (e : Ext H H') : W1 K a0 xs P l n H' := ⟨fun q hq => (w.s q hq).ext e, w.a.ext e, w.sc.ext e, w.ne⟩
theorem W1.pick (w : W1 K a0 xs P l n H) (hq : q ∈ P) (s' : Src H' q) (b : But q H H') : W1 K a0 xs P l n H' :=
  ⟨fun r hr => by
    by_cases e : r = q
    · exact e ▸ s'
    · exact (w.s r hr).stay b e, w.a.but (List.mem_cons_of_mem _ hq) (fun e => w.ne (e ▸ hq)) b, w.sc.but (List.mem_cons_of_mem _ hq) b, w.ne⟩
theorem W1.ty (w : W1 K a0 xs P l n H) : tyV K "list" (.ref l) H := by
  obtain ⟨ys, h, _⟩ := w.a
  exact .inl ⟨rfl, _, sqL h⟩
theorem W1.push {wh u v : Int} {Q : VK} (w : W1 K a0 xs P l n H) (hq : H q = none) (e : Ext H H1) (h : H1 q = some (.lst [.int wh, .int u, .int v])) (hw : 0 ≤ wh ∧ wh ≤ 2) (hz : n < 100000)
    (k : ∀ H', W1 K a0 xs P l (n + 1) H' → Q .non H') : rAppend (.ref l) [.ref q] H1 Q := by
  refine w.a.push (List.mem_cons_self) (fun p hp => ?_) hq e h hw hz (fun H' a' n' => k H' ⟨fun r hr => ((w.s r hr).ext e).stay (.of n') fun z => w.ne (z ▸ hr), a', (w.sc.ext e).but (List.mem_cons_self) (.of n'), w.ne⟩)
  rcases List.mem_cons.mp hp with rfl | hp
  · exact lst_some w.a
  · exact src_some (w.s p hp)
theorem W1.more (w : W1 K a0 xs P l n H) (hq : H q = none) (e : Ext H H') (s : Src H' q) : W1 K a0 xs (q :: P) l n H' := by
  have ss : ∀ r ∈ (l :: q :: P), r ∈ (l :: P) ∨ H r = none := fun r hr => by
    rcases List.mem_cons.mp hr with rfl | hr
    · exact .inl (List.mem_cons_self)
    · rcases List.mem_cons.mp hr with rfl | hr
      · exact .inr hq
      · exact .inl (List.mem_cons_of_mem _ hr)
  refine ⟨fun r hr => ?_, (w.a.sub ss).ext e, (w.sc.more ss).ext e, fun z => ?_⟩
  · rcases List.mem_cons.mp hr with rfl | hr
    · exact s
    · exact (w.s r hr).ext e
  · rcases List.mem_cons.mp z with z | z
    · exact lst_some w.a (z ▸ hq)
    · exact w.ne z
end

theorem sc_law : FnScope ["script", "source", "asked", "turn", "odd", "which", "low", "first", "a", "b", "c", "k", "due"] ["script"] (defScope s_law) := ⟨rfl, rfl, rfl, by decide +kernel, rfl, by decide +kernel, by decide +kernel⟩
theorem ok_law (T : Txt w K mg) {fd : FuncData} (D : FunD K "law" "law" (defArgs s_law) (defBody s_law) (defScope s_law) [] [] (He.ga K "law") fd) : FnOk P w K mg base (L2N.CX P w) 10 (He.ga K "law") fd ["script"] (spLaw K) := by
  have c__law_source := ok_law_source (P := P) (base := base) T
  have c__law_pick := ok_law_pick (P := P) (base := base) T
  have c__law_shuffled := ok_law_shuffled (P := P) (base := base) T
  have c__law_same := ok_law_same (P := P) (base := base) T 2
  have c__law_reach := ok_law_reach (P := P) (base := base) T
  have c__law_f_asked := ok_law_f_asked (P := P) (base := base) T
  have c__law_f_due := ok_law_f_due (P := P) (base := base) T
  have c__law_f_number := ok_law_f_number (P := P) (base := base) T
  have c__law_f_parts := ok_law_f_parts (P := P) (base := base) T
  have c__law_f_odd := ok_law_f_odd (P := P) (base := base) T
  have c_reach_of := ok_reach_of (P := P) (base := base) T
  have c_least_sizes := ok_least_sizes (P := P) (base := base) T
  refine D.ok sc_law (fun vs H Q E h => by obtain ⟨c, ns, rfl, _⟩ := h; rfl) (fun cdv A outer s H vs Q E hr h => ?_)
  have nd := sc_law.nd
  have hu := hu64 hr
  obtain ⟨a0, ns, rfl, hns, hl, k⟩ := h
  refine ⟨_, (pss_cons (ps_set (i := 1) nd rfl (Or.inl rfl) (pe_cal c__law_source hr (by omega) (fun σ => L2N.passAt (L2N.takes_of rfl rfl rfl rfl) σ) (pa_cons (pv 0) (pa_cons pe_int pa_nil))))
        (pss_cons (ps_set (i := 2) nd rfl (Or.inl rfl) (pe_lst pa_nil))
        (pss_cons (ps_for (passes_of rfl) rfl (pi_range1 (by rfl) T.f_range (pa_cons pe_int pa_nil)) (pg_name (i := 3) nd rfl (Or.inl rfl)) (pss_cons (ps_expr (peBM (K := K) (pe_bm PySem.F.plainAttrs_list PySem.F.slot_list_append PySem.F.type_list_append mt_append (pv 2) (pa_cons (pe_lst (pa_cons pe_int (pa_cons (pe_cal c__law_f_number hr (by omega) (fun σ => L2N.passAt (L2N.takes_of rfl rfl rfl rfl) σ) (pa_cons (pv 1) (pa_cons pe_int pa_nil))) (pa_cons (pe_cal c__law_f_number hr (by omega) (fun σ => L2N.passAt (L2N.takes_of rfl rfl rfl rfl) σ) (pa_cons (pv 1) (pa_cons pe_int pa_nil))) pa_nil)))) pa_nil))))
        (pss_cons (ps_expr (peBM (K := K) (pe_bm PySem.F.plainAttrs_list PySem.F.slot_list_append PySem.F.type_list_append mt_append (pv 2) (pa_cons (pe_lst (pa_cons pe_int (pa_cons (pe_cal c__law_f_parts hr (by omega) (fun σ => L2N.passAt (L2N.takes_of rfl rfl rfl rfl) σ) (pa_cons (pv 1) pa_nil)) (pa_cons (pe_callB (cr_max2 rfl) (by rfl) T.f_max (by decide +kernel) (pa_cons pe_int (pa_cons (pe_cal c__law_f_number hr (by omega) (fun σ => L2N.passAt (L2N.takes_of rfl rfl rfl rfl) σ) (pa_cons (pv 1) (pa_cons pe_int pa_nil))) pa_nil))) pa_nil)))) pa_nil))))
        (pss_one (ps_expr (peBM (K := K) (pe_bm PySem.F.plainAttrs_list PySem.F.slot_list_append PySem.F.type_list_append mt_append (pv 2) (pa_cons (pe_lst (pa_cons pe_int (pa_cons (pe_cal c__law_f_parts hr (by omega) (fun σ => L2N.passAt (L2N.takes_of rfl rfl rfl rfl) σ) (pa_cons (pv 1) pa_nil)) (pa_cons (pe_callB (cr_max2 rfl) (by rfl) T.f_max (by decide +kernel) (pa_cons pe_int (pa_cons (pe_cal c__law_f_number hr (by omega) (fun σ => L2N.passAt (L2N.takes_of rfl rfl rfl rfl) σ) (pa_cons (pv 1) (pa_cons pe_int pa_nil))) pa_nil))) pa_nil)))) pa_nil))))))))
        (pss_cons (ps_set (i := 4) nd rfl (Or.inl rfl) (pe_cal c__law_source hr (by omega) (fun σ => L2N.passAt (L2N.takes_of rfl rfl rfl rfl) σ) (pa_cons (pv 0) (pa_cons pe_int pa_nil))))
        (pss_cons (ps_for (passes_of rfl) rfl (pi_range1 (by rfl) T.f_range (pa_cons pe_int pa_nil)) (pg_name (i := 3) nd rfl (Or.inl rfl)) (pss_cons (ps_set (i := 5) nd rfl (Or.inl rfl) (pe_cal c__law_pick hr (by omega) (fun σ => L2N.passAt (L2N.takes_of rfl rfl rfl rfl) σ) (pa_cons (pv 4) (pa_cons pe_int pa_nil))))
        (C8.pss_cut (ps_set (i := 6) nd rfl (Or.inl rfl) (pe_ifExp (pt_cmpR (sameK (K := K) hu) (pv 5) pe_int (nomark _)) pe_int pe_int))
        (C8.pss_cut (ps_set (i := 7) nd rfl (Or.inl rfl) (pe_cal c__law_f_odd hr (by omega) (fun σ => L2N.passAt (L2N.takes_of rfl rfl rfl rfl) σ) (pa_cons (pv 4) (pa_cons (pv 6) (pa_cons (pe_ifExp (pt_cmpR (sameK (K := K) hu) (pv 5) pe_int (nomark _)) pe_int pe_int) pa_nil)))))
        (pss_cons (ps_expr (peBM (K := K) (pe_bm PySem.F.plainAttrs_list PySem.F.slot_list_append PySem.F.type_list_append mt_append (pv 2) (pa_cons (pe_lst (pa_cons (pv 5) (pa_cons (pv 7) (pa_cons (pe_cal c__law_f_odd hr (by omega) (fun σ => L2N.passAt (L2N.takes_of rfl rfl rfl rfl) σ) (pa_cons (pv 4) (pa_cons (pv 6) (pa_cons pe_int pa_nil)))) pa_nil)))) pa_nil))))
        (pss_one (ps_expr (peBM (K := K) (pe_bm PySem.F.plainAttrs_list PySem.F.slot_list_append PySem.F.type_list_append mt_append (pv 2) (pa_cons (pe_lst (pa_cons (pv 5) (pa_cons (pv 7) (pa_cons (pe_callB (cr_max2 rfl) (by rfl) T.f_max (by decide +kernel) (pa_cons (pv 6) (pa_cons (pe_cal c__law_f_number hr (by omega) (fun σ => L2N.passAt (L2N.takes_of rfl rfl rfl rfl) σ) (pa_cons (pv 4) (pa_cons pe_int pa_nil))) pa_nil))) pa_nil)))) pa_nil))))))))))
        (pss_cons (ps_set (i := 2) nd rfl (Or.inl rfl) (pe_cal c__law_shuffled hr (by omega) (fun σ => L2N.passAt (L2N.takes_of rfl rfl rfl rfl) σ) (pa_cons (pv 1) (pa_cons (pv 2) pa_nil))))
        (pss_cons (ps_for (passes_of rfl) rfl (piL (K := K) (pe_op (plusK (K := K)) (pv 2) (pe_slice (slK (K := K)) (pv 2) po_none (po_some pe_int)))) (pgL (K := K) (pg_lst rfl (pgs_cons (pg_name (i := 5) nd rfl (Or.inl rfl)) (pgs_cons (pg_name (i := 8) nd rfl (Or.inl rfl)) (pgs_cons (pg_name (i := 9) nd rfl (Or.inl rfl)) pgs_nil))))) (pss_cons (ps_if (pt_not (pt_val (pe_cal c__law_same hr (by omega) (fun σ => L2N.passAt (L2N.takes_of rfl rfl rfl rfl) σ) (pa_cons (pe_cal c__law_f_asked hr (by omega) (fun σ => L2N.passAt (L2N.takes_of rfl rfl rfl rfl) σ) (pa_cons (pv 5) (pa_cons (pv 8) (pa_cons (pv 9) pa_nil)))) (pa_cons (pe_cal c__law_f_due hr (by omega) (fun σ => L2N.passAt (L2N.takes_of rfl rfl rfl rfl) σ) (pa_cons (pv 5) (pa_cons (pv 8) (pa_cons (pv 9) pa_nil)))) pa_nil))))) (pss_one (ps_ret pe_bl)) pss_nil)
        (pss_one (ps_if (PW.pt (pw_and (pt_cmpR (sameK (K := K) hu) (pv 5) pe_int (nomark _)) (pw_and (pt_chain op_le op_le pe_int (pv 8) pe_int) (pw_and (pt_chain op_le op_le pe_int (pv 9) pe_int) (pw_and1 (pt_cmpR (otherK (K := K) hu) (pe_cal c_reach_of hr (by omega) (fun σ => L2N.passAt (L2N.takes_of rfl rfl rfl rfl) σ) (pa_cons (pv 9) (pa_cons (pv 8) pa_nil))) (pe_cal c__law_reach hr (by omega) (fun σ => L2N.passAt (L2N.takes_of rfl rfl rfl rfl) σ) (pa_cons (pv 8) (pa_cons (pv 9) pa_nil))) (nomark _))))))) (pss_one (ps_ret pe_bl)) pss_nil))))
        (pss_cons (ps_for (passes_of rfl) rfl (pi_range1 (by rfl) T.f_range (pa_cons pe_int pa_nil)) (pg_name (i := 3) nd rfl (Or.inl rfl)) (C8.pss_cut (ps_set (i := 10) nd rfl (Or.inl rfl) (pe_ifExp (pt_cmpR op_gt (pe_cal c__law_pick hr (by omega) (fun σ => L2N.passAt (L2N.takes_of rfl rfl rfl rfl) σ) (pa_cons (pv 1) (pa_cons pe_int pa_nil))) pe_int (nomark _)) (pe_cal c__law_pick hr (by omega) (fun σ => L2N.passAt (L2N.takes_of rfl rfl rfl rfl) σ) (pa_cons (pv 1) (pa_cons pe_int pa_nil))) (pe_cal c__law_pick hr (by omega) (fun σ => L2N.passAt (L2N.takes_of rfl rfl rfl rfl) σ) (pa_cons (pv 1) (pa_cons (pe_op op_pow pe_int pe_int) pa_nil)))))
        (C8.pss_cut (ps_set (i := 11) nd rfl (Or.inl rfl) (pe_ifExp (pt_cmpR op_gt (pe_cal c__law_pick hr (by omega) (fun σ => L2N.passAt (L2N.takes_of rfl rfl rfl rfl) σ) (pa_cons (pv 1) (pa_cons pe_int pa_nil))) pe_int (nomark _)) (pe_cal c__law_pick hr (by omega) (fun σ => L2N.passAt (L2N.takes_of rfl rfl rfl rfl) σ) (pa_cons (pv 1) (pa_cons pe_int pa_nil))) (pe_cal c__law_pick hr (by omega) (fun σ => L2N.passAt (L2N.takes_of rfl rfl rfl rfl) σ) (pa_cons (pv 1) (pa_cons (pe_op op_pow pe_int pe_int) pa_nil)))))
        (pss_cons (ps_set (i := 12) nd rfl (Or.inl rfl) (pe_op op_fdivW (pe_op (plusK (K := K)) (pe_op op_timesB (pv 11) (pe_op (plusK (K := K)) (pv 10) pe_int)) pe_int) pe_int))
        (C8.pss_cut (ps_if (PW.pt (pw_or (pt_cmpR op_lt (pv 11) pe_int (nomark _)) (pw_or1 (pt_cmpR (sameK (K := K) hu) (pv 10) pe_int (nomark _))))) (pss_one (ps_set (i := 12) nd rfl (Or.inl rfl) (pe_op op_timesB (pv 10) (pv 11)))) pss_nil)
        (pss_one (ps_if (pt_not (pt_val (pe_cal c__law_same hr (by omega) (fun σ => L2N.passAt (L2N.takes_of rfl rfl rfl rfl) σ) (pa_cons (pe_cal c_least_sizes hr (by omega) (fun σ => L2N.passAt (L2N.takes_of rfl rfl rfl rfl) σ) (pa_cons (pv 10) (pa_cons (pv 11) pa_nil))) (pa_cons (pv 12) pa_nil))))) (pss_one (ps_ret pe_bl)) pss_nil)))))))
        (pss_one (ps_ret pe_bl)))))))))), ?_⟩
  walk_at "st"
  refine ⟨a0, ns, 0, rfl, hns, hl, by decide, fun p H1 hp0 e1 s1 => ?_⟩
  walk_at "st"
  intro l H2 hl2 e2 h2
  walk_at "st"
  have w2 : W1 K a0 (ns.map V.int) [p] l 0 H2 := by
    refine ⟨fun q hq => ?_, ⟨[], h2, rfl, fun _ z => absurd z (List.not_mem_nil)⟩, ?_, fun z => ?_⟩
    · rw [List.mem_singleton.mp hq]; exact s1.ext e2
    · refine (Sc.start hns fun q hq => ?_).ext (e1.trans e2)
      rcases List.mem_cons.mp hq with rfl | hq
      · exact e1.none hl2
      · rw [List.mem_singleton.mp hq]; exact hp0
    · rw [List.mem_singleton.mp z] at hl2
      exact src_some s1 hl2
  have pp : p ∈ [p] := List.mem_cons_self
  refine forW_range (fun i σ' H' => ∃ v, σ' = [some (.ref a0), some (.ref p), some (.ref l), v, none, none, none, none, none, none, none, none, none] ∧ W1 K a0 (ns.map V.int) [p] l (3 * i) H') ⟨none, rfl, w2⟩ ?_ ?_
  · rintro i σ' H3 hi ⟨v, rfl, w3⟩
    walk_at "st"
    refine ⟨w3.ty, ?_⟩
    walk_at "st"
    refine ⟨p, 100, rfl, w3.s p pp, by decide, by decide, fun r4 H4 _ _ s4 n4 => ?_⟩
    have w4 := w3.pick pp s4 (.of n4)
    walk_at "st"
    refine ⟨p, 100, rfl, s4, by decide, by decide, fun r5 H5 _ _ s5 n5 => ?_⟩
    have w5 := w4.pick pp s5 (.of n5)
    walk_at "st"
    intro q6 H6 hq6 e6 h6
    walk_at "st"
    refine w5.push hq6 e6 h6 (by decide) (by omega) (fun H7 w7 => ?_)
    walk_at "st"
    refine ⟨w7.ty, ?_⟩
    walk_at "st"
    refine ⟨p, rfl, w7.s p pp, fun r8 H8 _ _ s8 n8 => ?_⟩
    have w8 := w7.pick pp s8 (.of n8)
    walk_at "st"
    refine ⟨p, 100, rfl, s8, by decide, by decide, fun r9 H9 _ _ s9 n9 => ?_⟩
    have w9 := w8.pick pp s9 (.of n9)
    walk_at "st"
    intro qa Ha hqa ea ha
    walk_at "st"
    refine w9.push hqa ea ha (by decide) (by omega) (fun Hb wb => ?_)
    walk_at "st"
    refine ⟨wb.ty, ?_⟩
    walk_at "st"
    refine ⟨p, rfl, wb.s p pp, fun rc Hc _ _ sc nc => ?_⟩
    have wc := wb.pick pp sc (.of nc)
    walk_at "st"
    refine ⟨p, 100, rfl, sc, by decide, by decide, fun rd Hd _ _ sd nd => ?_⟩
    have wd := wc.pick pp sd (.of nd)
    walk_at "st"
    intro qe He hqe ee he
    walk_at "st"
    refine wd.push hqe ee he (by decide) (by omega) (fun Hf wf => ?_)
    exact ⟨_, rfl, wf⟩
  rintro σ' H3 ⟨v3, rfl, w3⟩
  walk_at "st"
  refine ⟨a0, ns, 1, rfl, w3.sc.1, hl, by decide, fun o H4 ho e4 s4 => ?_⟩
  have w4 := w3.more ho e4 s4
  have po : o ∈ [o, p] := List.mem_cons_self
  have pp : p ∈ [o, p] := List.mem_cons_of_mem _ (List.mem_cons_self)
  walk_at "st"
  refine forW_range (fun i σ' H' => ∃ v x y z, σ' = [some (.ref a0), some (.ref p), some (.ref l), v, some (.ref o), x, y, z, none, none, none, none, none] ∧ W1 K a0 (ns.map V.int) [o, p] l (9 + 2 * i) H') ⟨v3, none, none, none, rfl, w4⟩ ?_ ?_
  · rintro i σ' H3 hi ⟨v, x, y, z, rfl, w3⟩
    walk_at "st"
    refine ⟨o, 3, rfl, w3.s o po, by decide, by decide, fun r4 H4 r40 r41 s4 n4 => ?_⟩
    have w4 := w3.pick po s4 (.of n4)
    walk_at "st"
    refine r_cut (fun σ' H' => ∃ lo, σ' = [some (.ref a0), some (.ref p), some (.ref l), some (.int (0 + (i : Int))), some (.ref o), some (.int r4), some (.int lo), z, none, none, none, none, none] ∧ W1 K a0 (ns.map V.int) [o, p] l (9 + 2 * i) H' ∧ 0 ≤ lo) ?_ ?_
    · walk_at "st"
      exact ⟨_, rfl, w4, by split <;> decide⟩
    rintro σ' H5 ⟨lo, rfl, w5, lo0⟩
    walk_at "st"
    refine r_cut (fun σ' H' => ∃ f, σ' = [some (.ref a0), some (.ref p), some (.ref l), some (.int (0 + (i : Int))), some (.ref o), some (.int r4), some (.int lo), some (.int f), none, none, none, none, none] ∧ W1 K a0 (ns.map V.int) [o, p] l (9 + 2 * i) H') ?_ ?_
    · walk_at "st"
      exact ⟨o, lo, _, rfl, w5.s o po, fun r H6 s6 b6 => ⟨r, rfl, w5.pick po s6 b6⟩⟩
    rintro σ' H6 ⟨f, rfl, w6⟩
    walk_at "st"
    refine ⟨w6.ty, ?_⟩
    walk_at "st"
    refine ⟨o, lo, 100, rfl, w6.s o po, fun r7 H7 s7 b7 => ?_⟩
    have w7 := w6.pick po s7 b7
    walk_at "st"
    intro q8 H8 hq8 e8 h8
    walk_at "st"
    refine w7.push hq8 e8 h8 (by omega) (by omega) (fun H9 w9 => ?_)
    walk_at "st"
    refine ⟨w9.ty, ?_⟩
    walk_at "st"
    refine ⟨o, 100, rfl, w9.s o po, by decide, by decide, fun ra Ha _ _ sa na => ?_⟩
    have wa := w9.pick po sa (.of na)
    walk_at "st"
    intro qb Hb hqb eb hb
    walk_at "st"
    refine wa.push hqb eb hb (by omega) (by omega) (fun Hc wc => ?_)
    exact ⟨_, _, _, _, rfl, wc⟩
  rintro σ' H5 ⟨v5, x5, y5, z5, rfl, w5⟩
  obtain ⟨xs, hx, hlen, hit⟩ := w5.a
  walk_at "st"
  refine ⟨p, l, xs, rfl, w5.s p pp, sqL hx, by omega, fun q H6 ys hq6 pm s6 h6 b6 => ?_⟩
  have hys : ∀ x ∈ ys, Item [p] H6 x := fun x hx => ((hit x (pm.mem_iff.mp hx)).sub fun r hr => .inl (by rw [List.mem_singleton.mp hr]; exact List.mem_cons_of_mem _ pp)).but (List.mem_cons_self) b6
  have hyl : ys.length = 17 := by rw [pm.length_eq, hlen]; rfl
  walk_at "st"
  refine r_slL (sqL h6) (fun q2 H7 hq7 e7 h7 => ?_)
  rw [show (3 : Int) = ((3 : Nat) : Int) from rfl, cut_to] at h7
  walk_at "st"
  refine r_catL (e7 _ _ h6) h7 (by rw [List.length_take]; omega) (fun q3 H8 hq8 e8 h8 => ?_)
  walk_at "st"
  have e68 := e7.trans e8
  have hzs : ∀ x ∈ ys ++ ys.take 3, Item [p] H8 x := fun x hx => (hys x ((List.mem_append.mp hx).elim id fun z => List.mem_of_mem_take z)).ext e68
  have s8 : Src H8 p := s6.ext e68
  refine r_li (sqL h8) ?_
  refine forW_list (fun i σ' H' => ∃ v w x y z1 z2 z3, σ' = [some (.ref a0), some (.ref p), some (.ref q), v, w, x, y, z1, z2, z3, none, none, none] ∧ Ext H8 H') ⟨_, _, _, _, _, _, _, rfl, .rfl⟩ (fun i σ' H' hi ⟨_, _, _, _, _, _, _, _, e⟩ => e.l (sqL h8)) ?_ ?_
  · rintro i x σ' H9 hx ⟨v, w, x1, y, z1, z2, z3, rfl, e9⟩
    obtain ⟨a, wh, u, v, rfl, ha, hw, _⟩ := hzs x (List.mem_of_getElem? hx)
    refine r_glst (sqL (e9 _ _ ha)) rfl ?_
    walk_at "st"
    refine ⟨wh, u, v, rfl, hw, fun x d H10 hd e10 hx10 => ?_⟩
    walk_at "st"
    refine ⟨wh, u, v, rfl, hw, fun y d' H11 hd' e11 hy11 => ?_⟩
    have ed := hd.uniq hd'
    subst ed
    walk_at "st"
    refine ⟨x, y, d.d, rfl, e11.dp _ hx10, hy11, d.small, fun H12 e12 => ?_⟩
    have e8' : Ext H8 H12 := e9.trans (e10.trans (e11.trans e12))
    walk_at "st"
    refine ite_d (fun c0 => ?_) (fun c0 => ?_)
    · walk_at "st"
      refine ite_d (fun c1 => ?_) (fun c1 => ?_)
      · walk_at "st"
        refine ite_d (fun c2 => ?_) (fun c2 => ?_)
        · walk_at "st"
          refine ite_d (fun c3 => ?_) (fun c3 => ?_)
          · walk_at "st"
            refine ite_d (fun c4 => ?_) (fun c4 => ?_)
            · walk_at "st"
              refine ⟨v, u, rfl, fun c => absurd c (by omega), fun _ _ c => absurd c (by omega), fun _ _ _ c => absurd c (by omega), fun _ _ _ _ H13 e13 => ?_⟩
              walk_at "st"
              refine ⟨u.toNat, v.toNat, by rw [Int.toNat_of_nonneg (by omega), Int.toNat_of_nonneg (by omega)], by omega, by omega, ?_⟩
              walk_at "st"
              rw [Del.D_comm]
              refine ite_n (fun z => absurd rfl z) (fun _ => ?_)
              walk_at "st"
              exact ⟨_, _, _, _, _, _, _, rfl, e8'.trans e13⟩
            · walk_at "st"
              exact ⟨_, _, _, _, _, _, _, rfl, e8'⟩
          · walk_at "st"
            exact ⟨_, _, _, _, _, _, _, rfl, e8'⟩
        · walk_at "st"
          exact ⟨_, _, _, _, _, _, _, rfl, e8'⟩
      · walk_at "st"
        exact ⟨_, _, _, _, _, _, _, rfl, e8'⟩
    · walk_at "st"
      exact ⟨_, _, _, _, _, _, _, rfl, e8'⟩
  rintro σ' H9 ⟨v9, w9, x9, y9, z19, z29, z39, rfl, e9⟩
  have s9 := s8.ext e9
  walk_at "st"
  refine forW_range (fun i σ' H' => ∃ v c1 c2 c3, σ' = [some (.ref a0), some (.ref p), some (.ref q), v, w9, x9, y9, z19, z29, z39, c1, c2, c3] ∧ Src H' p) ⟨_, _, _, _, rfl, s9⟩ ?_ ?_
  · rintro i σ' H10 hi ⟨v, c1, c2, c3, rfl, s10⟩
    walk_at "st"
    refine r_cut (fun σ' H' => ∃ c : Int, σ' = [some (.ref a0), some (.ref p), some (.ref q), some (.int (0 + (i : Int))), w9, x9, y9, z19, z29, z39, some (.int c), c2, c3] ∧ Src H' p ∧ 0 ≤ c ∧ c < 2 ^ 200) ?_ ?_
    · walk_at "st"
      refine ⟨p, 3, rfl, s10, by decide, by decide, fun r4 H4 r40 r41 s4 n4 => ?_⟩
      walk_at "st"
      refine ite_d (fun c0 => ?_) (fun c0 => ?_)
      · walk_at "st"
        refine ⟨p, 12, rfl, s4, by decide, by decide, fun r5 H5 r50 r51 s5 n5 => ?_⟩
        exact ⟨_, rfl, s5, r50, by omega⟩
      · walk_at "st"
        refine ⟨p, _, rfl, s4, by decide, by decide, fun r5 H5 r50 r51 s5 n5 => ?_⟩
        exact ⟨_, rfl, s5, r50, Int.lt_trans r51 (by decide)⟩
    rintro σ' H11 ⟨c, rfl, s11, hc0, hc1⟩
    refine r_cut (fun σ' H' => ∃ k : Int, σ' = [some (.ref a0), some (.ref p), some (.ref q), some (.int (0 + (i : Int))), w9, x9, y9, z19, z29, z39, some (.int c), some (.int k), c3] ∧ Src H' p ∧ 0 ≤ k ∧ k < 2 ^ 200) ?_ ?_
    · walk_at "st"
      refine ⟨p, 3, rfl, s11, by decide, by decide, fun r4 H4 r40 r41 s4 n4 => ?_⟩
      walk_at "st"
      refine ite_d (fun c0 => ?_) (fun c0 => ?_)
      · walk_at "st"
        refine ⟨p, 9, rfl, s4, by decide, by decide, fun r5 H5 r50 r51 s5 n5 => ?_⟩
        exact ⟨_, rfl, s5, r50, by omega⟩
      · walk_at "st"
        refine ⟨p, _, rfl, s4, by decide, by decide, fun r5 H5 r50 r51 s5 n5 => ?_⟩
        exact ⟨_, rfl, s5, r50, Int.lt_trans r51 (by decide)⟩
    rintro σ' H12 ⟨kk, rfl, s12, hk0, hk1⟩
    walk_at "st"
    refine r_timesB (.inl (wide_mul (a := 200) (b := 201) (by omega) (by omega) (by omega) (by omega) (by omega))) ?_
    walk_at "st"
    refine r_div (cdW (by decide) (by decide)) ?_
    walk_at "st"
    refine r_cut (fun σ' H' => H' = H12 ∧ σ' = [some (.ref a0), some (.ref p), some (.ref q), some (.int (0 + (i : Int))), w9, x9, y9, z19, z29, z39, some (.int c), some (.int kk), some (.int (leastSizes c kk))]) ?_ ?_
    · have e0 : kk < 2 ∨ c = 0 → c * kk = leastSizes c kk := fun z => by
        unfold leastSizes
        by_cases h1 : c = 0
        · rw [if_pos (.inl h1), h1, Int.zero_mul]
        · by_cases h2 : kk = 0
          · rw [if_pos (.inr h2), h2, Int.mul_zero]
          · rw [if_neg (by omega), if_pos (by omega), show kk = 1 by omega, Int.mul_one]
      have e1 : ¬ (kk < 2) → c ≠ 0 → (kk * (c + 1) + 1) / 2 = leastSizes c kk := fun z1 z2 => by
        unfold leastSizes
        rw [if_neg (by omega), if_neg (by omega)]
      have mul : CMulB c kk := .inl (wide_mul (a := 200) (b := 200) (by omega) (by omega) (by omega) (by omega) (by omega))
      walk_at "st"
      refine ite_d (fun c0 => ?_) (fun c0 => ?_)
      · walk_at "st"
        refine r_timesB mul ?_
        rw [e0 (.inl c0)]
        exact ⟨rfl, rfl⟩
      · walk_at "st"
        refine ite_d (fun c1 => ?_) (fun c1 => ?_)
        · walk_at "st"
          refine r_timesB mul ?_
          rw [e0 (.inr (V.int.inj c1))]
          exact ⟨rfl, rfl⟩
        · walk_at "st"
          rw [e1 c0 (fun e => c1 (by rw [e]))]
          exact ⟨rfl, rfl⟩
    rintro σ' H13 ⟨rfl, rfl⟩
    walk_at "st"
    refine ⟨c, kk, rfl, ⟨hc0, hc1⟩, ⟨hk0, hk1⟩, ?_⟩
    walk_at "st"
    refine ⟨_, _, .int (leastSizes c kk), rfl, .int _, .int _, small_int _ _, fun H14 e14 => ?_⟩
    walk_at "st"
    exact ⟨_, _, _, _, rfl, s12.ext e14⟩
  · rintro σ' H10 ⟨v, c1, c2, c3, rfl, s10⟩
    walk_at "st"
    exact k H10

end
end K25

theorem PySem.Challenge.cw_toldoutside_k25_depths_loads_and_fewest_holds : PySem.Challenge.rw_toldoutside_k25_depths_loads_and_fewest.Holds :=
  K25.law_of 10 ⟨rfl, by decide, by decide⟩ fun w K mg base _ _ T fd D => K25.ok_law T D
